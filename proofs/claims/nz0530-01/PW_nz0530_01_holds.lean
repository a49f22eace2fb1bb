import PyProof.Rows.All
import Wide.All
import OpenK.AllK
import Wide.FinOn
import PySem.Challenge.RW_nz0530_01
set_option maxRecDepth 100000
set_option Elab.async false
set_option linter.all false
set_option genSizeOf false
set_option genInjectivity false
set_option tactic.hygienic false
set_option backward.match.sparseCases false
set_option genCtorIdx false
namespace Mine.Lake
open PySem PySem.W PyProof.Rows PySem.SeqAt
open _root_ renaming List->aa,decide_eq_true->ab,Option->ag,of_decide_eq_true->ah,decide_eq_false->al,Nat->av,congrArg->aE,if_pos->aJ,Int->aL,Bool->aM,if_neg->aN,beq_self_eq_true->bH,beq_eq_false_iff_ne->cz,False->cC,beq_iff_eq->f4,decide_eq_true_eq->g0,DecidableEq->g8,And->mD,Array->pZ,or_false->sB,decide_eq_false_iff_not->sC,Decidable->sF,congrFun->Ag,Unit->Ah,ForInStep->Ny,Except->WP
open _root_.PySem renaming wpAny_bind->ac,Shared->af,Value->ak,wpAny_mono->aq,Addr->az,wpAny_pure->aD,Expr->aX,call->bS,Str->b9,mainGlobals->cf,Heap->cy,foldedSetIterable->cH,mem_of_lookup->cJ,wpAny_Call_NameR->cR,codeAny->cW,wpAny_holding->dA,swapsWith->dB,rawInt->dZ,Stmt->d6,NameKind->eB,strKind->eQ,Around->eX,compEnvC->fb,FuncData->fe,sysModules->f5,starEach->gk,wpAny_standAt->gq,wpAny_field->gt,intKind->gN,wpAny_comprehension_free->hV,builtinsNs->hY,wpAny_execs_cons->iq,wpAny_execs_nil->iW,swapsWithSole->jf,wpAny_Return_some->jq,holding->jr,Pos->jt,Scope->jB,IsRangeIter->jC,standAt->jS,isTrue->jX,stored->kF,wpAny_setField_rec->kQ,wpAny_Name->kR,wpAny_callSpecial?_slot->lh,cellsFrom->li,wpAny_seqItems->lM,wpAny_loadPart_at->lN,wpAny_dictEntries->lO,notedBy->lP,codeAny_mono->lQ,backTo->lR,plainObj_wpAny_Assign_Attribute->ml,wpAny_call_entry->mM,lookBehind->mN,codeAmong->mO,call_meets->mP,assign->mQ,Fin->nA,wpAny_newFunctionEnv->nG,wpAny_loadName_local->nH,lookup_relabel_local->nJ,Program->pg,pyNext->pU,letTemporaryGo->pV,Operator->pX,wpAny_newObj_type->qU,wpAny_assign_Name->qV,BindsTo->qW,wpAny_onRaise->q5,swappedStores->q6,evalPairs->sD,binaryOp->sE,wpAny_mkText->s9,wpAny_call->tc,wpAny_Call_method_late->td,getAttr->te,assignEach->tf,Result->tq,Env->tx,wpAny_dictEpoch->t9,wpAny_storeName_local->ug,spliced->wu,setItem->wv,Sem->xt,Comprehension->xu,wpAny_pyIter_range->xX,nsFind->xY,cameBackBy->xZ,wpAny_pyIter_list->Ai,valueAt->Aj,wpAny_For->Cb,pyIter->Cc,noteFrame->Cd,newEnv->Ce,compareOp->Cf,slot_list_getitem->Ea,slot_dict_getitem->Eb,slicePicked->Ec,keywordEach->Ed,interactive->Ee,letOwnedTupleGo->Et,wpAny_richCompare_same_room->GD,Builtin->GG,wpAny_setField->GL,wpAny_rule->GN,wpAny_loadPart->GO,wpAny_bindName->GP,wpAny_Expr->GQ,sizeLine->GR,newFunctionEnv->GS,isInstance->GU,constantsAlone->GV,compPost->GW,World->GX,wpAny_letOwnedTupleGo_zip->Jc,wpAny_Subscript_str_slice->Jd,callWith_type->Je,wpAny_attempt->K5,rangeSize_one->K6,foldedForSure->K7,assignInOrder->K8,partValue->Nk,TriplesOk->Np,DictEntry->Nr,wpAny_nextOf_list_item->NJ,wpAny_Assign_Subscript->NK,codeAny_compStart_list->NL,call_range_1->NM,bootBuiltins->NN,argBest->NO,allTrue->NP,BoolOp->NS,exec_Assign_Name_used->Sp,wpAny_of_eq->SX,wpAny_mkInt->SY,wpAny_letGo->S1,compTurn->S2,codeAny_call_builtin->S3,backToKw->S4,Flow->Ta,Const->Tb,wpAny_setItem_pairs->Vx,wpAny_isSubtype_exc->Vy,wpAny_assign_Tuple->WH,truthy->WI,wpAny_truthy_bool->YP,slot_list_setitem->YQ,relabel->YR,leaving->YS,callerA->YT,StrKeys->YV,Keyword->YX,KeyKind->YY,ExcName->Y0,wpAny_pyIter_zip->Zn,wpAny_isInstance->Zo,wpAny_getItem_of->Zp,wpAny_askSetting->Zq,wpAny_Dict_empty->Zr,small_one->Zt,onTheHeap->Zu,theTreesLotGoes->ach,post_val_or_str->aci,codeAny_of_tree->acj,wpAny_notIn_of->adC,intItems->adD,callWith->adE,bindName->adF,wpAny_UnaryOp->afL,methodCallPos->afM,isExactStrKey->afN,eval_ListComp->afO,comprehension->afP,attributeBase->afQ
open Option.some renaming inj->am,injEq->Ei
open _root_.Nat renaming le_trans->ao,lt_of_le_of_lt->aI,zero_le->bD,le_refl->bK,add_le_add_left->bV,le_of_eq->cX,le_add_right->c0,le_of_ble_eq_true->dY,lt_of_lt_of_le->eE,lt_of_lt_of_eq->eG,succ_le_succ->fy,add_le_add_right->fF,le_succ_of_le->fN,le_of_lt->ju,add_assoc->jT,pos_of_ne_zero->jY,zero_add->kU,add_comm->nN,mul_le_mul->oN,lt_irrefl->pY,not_lt->q7,ne_of_lt->q8,ne_of_gt->q9,min_le_left->rW,min_eq_left->rX,one_mul->ty,add_le_add->tA,mul_le_mul_left->ui,sub_le->vn,sub_add_cancel->vo,add_right_comm->vq,le_of_not_lt->x7,le_succ->Ad,le_antisymm->Ao,le_add_left->Ap,mod_lt->Cm,mul_succ->G6,div_lt_of_lt_mul->Ld,add_sub_cancel'->Nu,sub_add_eq_max->NT,add_sub_cancel->NU,lt_succ_of_le->Sr,le_of_succ_le->Ss,succ_ne_self->Tc,not_lt_zero->Vz,beq->Zw,one_pos->acS,add_mul->acT,sub_lt->adO,max_le->adP
open _root_.List renaming length_map->aw,getElem?_eq_getElem->aC,all_eq_true->aF,length_append->aP,getElem?_eq_some_iff->aY,mem_cons->a0,mem_map->bb,mem_singleton->bh,getElem?_map->bl,replicate->bo,range->bp,all_cons->bw,nodup_cons->bB,mem_range->bE,mem_of_getElem?->bG,append_nil->bI,mem_append_left->bO,size_toArray->bT,forall_mem_cons->bX,eq_nil_of_length_eq_zero->bY,map_congr_left->cr,lookup_cons->cB,mem_append_right->cU,mem_append->cY,map_map->dj,length_set->dn,length_cons->dq,getElem?_set->dy,map_cons->dK,length_range->dR,getElem?_set_self->eT,append_assoc->eU,nodup_append->fJ,flatMap_cons->fK,nil_append->fO,length_pos_iff->fX,map_id->f6,any_cons->f7,not_mem_nil->gh,getElem?_eq_none_iff->gF,pairwise_map->gK,mem_map_of_mem->g7,getElem_mem->hG,forIn_cons->iw,length_replicate->iD,filterMap_cons_some->jJ,mem_flatMap->lJ,length_take->lK,mem_iff_getElem->l7,map_append->mB,length_zip->mC,length_reverse->mR,filterMap_cons->mS,getElem_range->nX,filterMap->nY,contains_cons->nZ,pairwise_iff_getElem->pb,getElem?_zip_eq_some->pc,drop_eq_getElem_cons->pd,reverse_cons->ph,getElem?_replicate->qw,map_nil->qX,drop_eq_nil_of_le->qY,all_nil->qZ,getElem?_set_ne->sK,replicate_succ->ud,pairwise_cons->ve,set_set->wy,any_eq_false->wz,isEmpty_iff->xx,getElem_map->xz,flatMap_map->xA,filter_cons->xC,any_eq_true->xD,length->x8,nodup_nil->A6,getD_eq_getElem?_getD->A7,foldl->A8,set_comm->Ej,length_filterMap_le->Ek,pairwise_singleton->Ez,length_eq_zero_iff->EA,filter_eq_nil_iff->GI,getElem?_eq_none->G7,reverse_reverse->Ji,range'->Jj,lookup->Jk,length_take_le'->Jl,getElem?_append->Jm,mem_filterMap->Nv,map_inj_left->NV,foldl_append->NW,ext_getElem?->NX,zipIdx_cons->Su,map_fst_zip->Sv,length_drop->Sw,flatMap_nil->Sy,countP_cons->Sz,cons_append->SA,mem_filter->Td,take_nil->WM,map_take->WN,getD->adQ,cons->adR
open _root_.Int renaming le_trans->ay,natCast_nonneg->ba,lt_of_lt_of_le->bd,le_of_lt->bz,lt_of_le_of_lt->bF,fmod_eq_emod_of_nonneg->bZ,add_le_add_right->cN,ofNat_le->dM,not_lt->dS,ofNat_lt->d8,le_refl->fa,le_of_eq->f8,sub_zero->gO,toNat_of_nonneg->hU,zero_add->ir,sub_le_sub_right->jj,ne_of_gt->jv,add_sub_cancel->jZ,one_mul->kB,eq_ofNat_of_zero_le->kC,emod_eq_zero_of_dvd->kD,natCast_emod->lS,lt_add_one_of_le->mq,max_eq_right->qO,dvd_of_emod_eq_zero->qP,lt_trans->ra,add_comm->rb,sub_nonneg_of_le->tB,mul_le_mul->tC,le_of_lt_add_one->tD,emod_emod_of_dvd->tE,add_nonneg->tF,add_le_add_left->uj,add_assoc->vf,sub_add_cancel->vt,not_le->vu,emod_lt_of_pos->vw,toNat_le->xc,ediv_one->xd,add_zero->xf,natCast_succ->x9,mul_one->Ae,sub_le_self->Aq,max_eq_left->Ar,emod_nonneg->As,mul_nonneg->Cn,max_le->Co,le_add_of_nonneg_right->Cp,fdiv_eq_ediv_of_nonneg->Cq,dvd_natAbs->Cr,toNat_lt->G8,lt_toNat->Ha,le_ediv_of_mul_le->Jn,ediv_le_of_le_mul->Jo,natAbs_of_nonneg->Le,toNat_of_nonpos->Nw,add_lt_add_left->Nx,toNat_natCast->SD,natCast_zero->Te,le_max_right->Tf,le_antisymm->VA,le_add_one->WO,le_natAbs->Y2,sub_sub->acU,sub_pos->acV
open PySem.Heap renaming get?_push_of_some->aA,get?_push_size->aR,SameBut->bj,get?_update_self->cI,lt_size->d5,size_push->gl,get?_update_other->il,ExtBut->x6,IsList->Zv
open _root_.Bool renaming or_eq_true_iff->aZ,and_eq_true->be,and_eq_true_iff->dI,not_eq_true'->eV,and_true->gR,false_ne_true->im,false_and->jh,and_false->n6,true_and->pT,false_or->El,or_eq_false_iff->Jp,not_eq_true->SG,or_eq_true->Tg,eq_iff_iff->Th,or_true->Y3
open _root_.Option renaming isSome_iff_exists->bJ,bind_eq_some_iff->eA,or->fo,map_eq_some_iff->qu,map->qv,bind->xb,isNone_iff_eq_none->An,getD->GH,isSome_map->Lc
open Nat.succ renaming inj->dc
open _root_.Array renaming getElem?_eq_some_iff->dG,getElem?_eq_getElem->oP,findIdx?_eq_some_iff_getElem->ul,getElem?_toList->GJ,toList_append->Jq,find?_isSome->Lg,ext'->Lh,getElem_mem->Nz
open PySem.Builtin.SmallTypes renaming nextOf->d7,ownedTupleIsFree->fp,ownedTupleHandOut->nU
open PySem.Expr renaming Name->eW,Slice->acl
open PySem.Heap.SameBut renaming update->fC
open PySem.NameKind renaming cell->fP,free->kT
open _root_.ForInStep renaming yield->gm,done->agU
open PySem.Value renaming ref->gE,builtin->pf,str->pW,bool->qK,int->sJ,isInt->GY,isStrOf_shape->Jf
open PySem.Obj renaming mapSeq->gS,mapFields->l5,putNameByArray->oM,putName_eq->tr,data_mapFields->vj,isFreed_of_fields->Jg,putName->ack
open PySem.W renaming instObj->iF,findIn->ji,looks_findIn->tg,Frag->uh,keepIn->vh,kindOf->x4,plainGet_of->Ef,hasDictIn->Nl,emptyDict->Nn,Looks->No,ghostOf->NQ,plainGet->S5,looks_clsIn->S6,handedIn->S7,findObj_own->S8,callWith_K0->S9,InstAt->WJ,takerIn->YU
open PySem.Builtin.Range renaming rangeSize->jg,small->Ac
open PySem.F renaming slot_zip_next->kJ,plainAttrs_list->l6,slot_tuple_index->Ak,slot_list_index->AZ,slot_list_count->A4,args_zip_next_1->A5,plainAttrs_str->Ch,entry_zip_next->Ci,attr_Exception->Cj,slot_list_pop->Eg,slot_range_iterator_next->Eu,slot_dict_ne->Ew,slot_dict_eq->Ey,slot_dict_get->Nq,slot_list_reverse->Sq,slot_int_rmul->YZ
open PySem.Expr.ListComp renaming elim->ly
open PySem.Expr.DictComp renaming elim->lz
open PySem.ScopeKind renaming function->mo
open Std.Legacy.Range renaming size->ny,forIn_eq_forIn_range'->nS
open PySem.Str renaming ofString->nK,append->adI
open PySem.Calls renaming Name_function_global->nM,loadGlobal_global->Eh
open PySem.Builtin.Dict renaming samePairs->nV,dictSlotArgs->vm,addrOf->Al,showsAll->acp
open _root_.Classical renaming axiomOfChoice->oO,byContradiction->xE
open PySem.Heap.DictOf renaming new->pa
open PySem.Stmt.AugAssign renaming elim->pQ
open PySem.Expr.Subscript renaming elim->pR
open PySem.Expr.Attribute renaming elim->pS
open PySem.Expr.Name renaming elim->qL
open PySem.Expr.Constant renaming elim->qM
open PySem.Builtin.Int renaming intBits->qN
open PySem.Expr.UnaryOp renaming elim->rU
open PySem.Expr.Compare renaming elim->rV
open PySem.Stmt.Return renaming elim->ti
open PySem.Stmt.Assign renaming elim->tj
open PySem.Expr.Lambda renaming elim->tt
open PySem.Expr.BoolOp renaming elim->tw
open _root_.False renaming elim->uk
open PySem.Stmt.While renaming elim->uZ
open PySem.Stmt.Raise renaming elim->u6
open PySem.Expr.Tuple renaming elim->u7
open PySem.Expr.Slice renaming elim->u8
open PySem.Expr.IfExp renaming elim->u9
open PySem.Expr.BinOp renaming elim->vc
open PySem.Builtin.Str renaming strSliceIndices->vd,tooLong->adN
open PySem.Env renaming kindOf->vl
open List.Pairwise renaming imp_of_mem->vr
open PySem.IsRange renaming new->ww
open PySem.Stmt.Pass renaming elim->w5
open PySem.Stmt.Expr renaming elim->w6
open PySem.Expr.List renaming elim->w7
open PySem.Expr.Dict renaming elim->w8
open PySem.Expr.Call renaming elim->w9
open PySem.Builtin renaming divisionGoesByPylong->xa
open PyProof.Rows renaming subscriptTail->xw,tail_any->Am,Attribute_any_->G5,truthy_none->acq,truthy_int->acr,sub_int->acs,slot_tuple_getitem->act,slot_str_getitem->acu,pow_int->acv,neg_int->acw,mul_int->acx,mod_int->acy,lt_int->acz,len_str->acA,le_int->acB,isub_int->acC,iadd_int->acD,gt_int->acE,getItem_tuple->acF,getItem_str->acG,ge_int->acH,floordiv_int->acI,evalArgs_none->acJ,call_abs_int->acK,callWith_method1->acL,callWith_method0->acM,add_str->acN,add_int->acO,Subscript_->acP,Assign_Tuple_swapped->acQ,Assign_Tuple->acR
open PySem.SeqAt renaming EqAt->x5
open PySem.Stmt.For renaming elim->Ab
open PySem.Stmt.If renaming elim->Cg
open PySem.EntryCells renaming newEntry->Ck
open PySem.Txt renaming slice->GF,rjustF->NR
open PySem.Scope renaming names->GZ,kind->K9
open PySem.DictEntry renaming refKey->G4
open _root_.Ne renaming symm->Jh
open PySem.Code renaming quiet_builtin->Nt
open PySem.Shared renaming heap->WK
open PySem.Challenge renaming rw_nz0530_01->WL
open PySem.SeqAt.EqAt renaming str_str->YW,same->adJ
open _root_.OfNat renaming ofNat->Y1
open PySem.Expr.SetComp renaming elim->acm
open PySem.Builtin.List renaming listSubscript?->acn,listFitsIndex->aco
open PySem.Heap.IsList renaming push->adL
open PySem.Data renaming seq->afR
open PySem.AutoRange renaming range_iterator___next___range_iterator_1->agR
open PySem.AutoListH renaming list_reverse_list_0->agS,list___mul___list_int_3->agT
theorem ya{n:aL}{k:av}(h1: -(k:aL)<=n)(h2:n<=k):n.natAbs<=k:=by
 rcases Int.natAbs_eq n with e|e
 ·exact dM.mp<|ay (f8 e.symm) h2
 ·exact dM.mp<|Int.le_of_neg_le_neg<|ay h1<|f8 e
theorem Ti{n:aL}(h:n%2=1):2*(n.natAbs/2)+1=n.natAbs:=by
 have h1:n.natAbs%2=1:=(Nat.mod_two_eq_zero_or_one _).resolve_left λq=>absurd ((kD (Int.ofNat_dvd_left.mpr (Nat.dvd_of_mod_eq_zero q):(2:aL)∣n)).symm.trans h) (by decide)
 have e:=Nat.div_add_mod n.natAbs 2
 rw[h1]at e
 exact e
theorem WQ(h:0<=n):(n.natAbs:aL)=n:=Le h
theorem WR(h:n<0): -n=(n.natAbs:aL):=(Int.ofNat_natAbs_of_nonpos<|bz h).symm
theorem below{P:aL->Prop}(n:av)(h: ∀j<n,P (j:av)){k:aL}(h0:0<=k)(h1:k<n):P k:=by
 obtain⟨j,rfl⟩:=kC h0
 exact h j<|d8.mp h1
theorem or2{k:aL}(h0:0<=k)(h1:k<2):k=0\/k=1:=below (P:=λk=>k=0\/k=1) 2 (by decide) h0 h1
theorem or3{k:aL}(h0:0<=k)(h1:k<3):k=0\/k=1\/k=2:=below (P:=λk=>k=0\/k=1\/k=2) 3 (by decide) h0 h1
theorem or4{k:aL}(h0:0<=k)(h1:k<4):k=0\/k=1\/k=2\/k=3:=below (P:=λk=>k=0\/k=1\/k=2\/k=3) 4 (by decide) h0 h1
theorem or5{k:aL}(h0:0<=k)(h1:k<5):k=0\/k=1\/k=2\/k=3\/k=4:=below (P:=λk=>k=0\/k=1\/k=2\/k=3\/k=4) 5 (by decide) h0 h1
theorem or7{k:aL}(h0:0<=k)(h1:k<7):k=0\/k=1\/k=2\/k=3\/k=4\/k=5\/k=6:=below (P:=λk=>k=0\/k=1\/k=2\/k=3\/k=4\/k=5\/k=6) 7 (by decide) h0 h1
theorem Zx{e:aL}(h:1<=e/\e<=4):e=1\/e=2\/e=3\/e=4:=(or5 (ay (by decide) h.1)<|mq h.2).resolve_left<|jv h.1
theorem WS(k:aL):k%2=0\/k%2=1:=or2 (As _ (by decide))<|vw _ (by decide)
theorem WT(k:aL):k%4=0\/k%4=1\/k%4=2\/k%4=3:=or4 (As _ (by decide))<|vw _ (by decide)
theorem NY{n:aL}(h:(n.natAbs:aL)%2=1):n%2=1:=
 (WS n).resolve_left λq=>absurd ((kD<|Cr.mpr<|qP q).symm.trans h) (by decide)
theorem Zy{a:aL}(h:a%4=1\/a%4=3):a%2=1:=by
 have e:=tE a (by decide:(2:aL)∣4)
 rcases h with h|h<;>(rw[h]at e;exact e.symm)
theorem Zz(h: -100<=n/\n<=199): -100<=n/2/\n/2<=199:=
 ⟨Jn (by decide) (ay (by decide) h.1),Jo (by decide)<|ay h.2 (by decide)⟩
theorem Tj(h: -100<=n/\n<=199): -100<=n/4/\n/4<=199:=
 ⟨Jn (by decide) (ay (by decide) h.1),Jo (by decide)<|ay h.2 (by decide)⟩
theorem NZ{n:aL}(h:(n.natAbs:aL)%4=2):n/2%2=1:=by
 have e:=tE (n.natAbs:aL) (by decide:(2:aL)∣4)
 rw[h]at e
 have hn:n%4=2:=by
  have no: ∀{k:aL},n%4=k->k%2=1->False:=λ{k} q z=>by
   have e2:=tE n (by decide:(2:aL)∣4)
   rw[q,z]at e2
   have d:=Cr.mp<|qP e.symm
   exact absurd (e2.trans<|kD d) (by decide)
  rcases WT n with q|q|q|q
  ·exact absurd (h.symm.trans<|kD<|Cr.mpr<|qP q) (by decide)
  ·exact(no q rfl).elim
  ·exact q
  ·exact(no q rfl).elim
 clear h e
 lia
theorem cle{a n:av}(h:a<=n):(a:aL)<=(Y1 n:aL):=dM.mpr h
theorem clt{a n:av}(h:a<n):(a:aL)<(Y1 n:aL):=d8.mpr h
theorem EB{e:aL}(h0:1<=e)(h:e<=3):e=1\/e=2\/e=3:=(or4 (ay (by decide) h0)<|mq h).resolve_left<|jv h0
theorem up0:(if 0<n then n - 0 else 0)=(n.toNat:aL):=by
 rw[gO]
 split
 ·exact(hU<|bz (by assumption)).symm
 ·rw[Nw<|dS.mp (by assumption)];rfl
theorem vy{u c k l L m:av}(h:l<L)(hu:u+c*L<=m)(hk:k<=c):u+k+c*l<=m:=by
 refine ao ?_<|ao (bV (ui c h) u) hu
 rw[jT,G6,nN k]
 exact bV (bV hk _) u
theorem um(h:n+k=l)(hk:k<l):n - 1<n/\n - 1+(k+1)=l:=by
 have hp:0<n:=jY λz=>by
  rw[z,kU]at h
  exact pY _<|h▸hk
 exact⟨adO hp acS,by rw[nN k 1,←jT,vo hp];exact h⟩
theorem ZA(h:a+(b+1)<=m):a+1+b<=m:=ao (cX<|vq a 1 b) h
theorem Lj(h:a+(b+1)<m):a+1+b<m:=aI (cX<|vq a 1 b) h
theorem nn1: -(-z - 1) - 1=z:=by rw[Int.neg_sub,Int.sub_neg,rb,jZ]
theorem N1{i:aL}{k:av}(h:i.natAbs<=k): -(k:aL)<=i/\i<=k:=
 ⟨Int.neg_le_of_neg_le (ay Y2 (by rw[Int.natAbs_neg];exact dM.mpr h)),ay Y2<|dM.mpr h⟩
theorem VC{e:aL}(h: -1<=e/\e<=2):e= -1\/e=0\/e=1\/e=2:=by
 have:=below (P:=λk=>k - 1= -1\/k - 1=0\/k - 1=1\/k - 1=2) 4 (by decide) (k:=e+1) (cN h.1 1)<|mq<|cN h.2 1
 rw[jZ]at this
 exact this
section
variable{G A B C D E F H I:Prop}
theorem cK(h:A/\B)(k:A->B->G):G:=k h.1 h.2
theorem n7(h:A/\B/\C)(k:A->B->C->G):G:=cK h λa h=>cK h<|k a
theorem ZB(h:A/\B/\C/\D)(k:A->B->C->D->G):G:=cK h λa h=>n7 h<|k a
theorem Y4(h:A/\B/\C/\D/\E)(k:A->B->C->D->E->G):G:=cK h λa h=>ZB h<|k a
theorem an6(h:A/\B/\C/\D/\E/\F)(k:A->B->C->D->E->F->G):G:=cK h λa h=>Y4 h<|k a
theorem an7(h:A/\B/\C/\D/\E/\F/\H)(k:A->B->C->D->E->F->H->G):G:=cK h λa h=>an6 h<|k a
theorem an8(h:A/\B/\C/\D/\E/\F/\H/\I)(k:A->B->C->D->E->F->H->I->G):G:=cK h λa h=>an7 h<|k a
end
section
variable{G:Prop}{a b c d e f:Sort _}
theorem bN{p:a->Prop}(h: ∃a,p a)(k: ∀a,p a->G):G:=h.elim k
theorem jK{p:a->b->Prop}(h: ∃a b,p a b)(k: ∀a b,p a b->G):G:=h.elim λx h=>h.elim<|k x
theorem A9{p:a->b->c->Prop}(h: ∃a b c,p a b c)(k: ∀a b c,p a b c->G):G:=h.elim λx h=>jK h<|k x
theorem Y5{p:a->b->c->d->Prop}(h: ∃a b c d,p a b c d)(k: ∀a b c d,p a b c d->G):G:=h.elim λx h=>A9 h<|k x
theorem ex5{p:a->b->c->d->e->Prop}(h: ∃a b c d e,p a b c d e)(k: ∀a b c d e,p a b c d e->G):G:=h.elim λx h=>Y5 h<|k x
theorem ex6{p:a->b->c->d->e->f->Prop}(h: ∃a b c d e f,p a b c d e f)(k: ∀a b c d e f,p a b c d e f->G):G:=h.elim λx h=>ex5 h<|k x
end
@[elab_as_elim] theorem aK{α:Sort _}{a b}{P:α->Prop}(e:a=b)(k:P b):P a:=e▸k
inductive Bj(n:av) where
 |cn|EC|pi|Ll|str|Lm|list|lT|dict|wA|isStr
noncomputable def Bj.ctorIdx(x:Bj n):Nat:=@Bj.rec n (λ_=>av) 0 1 2 3 4 5 6 7 8 9 10 x
noncomputable abbrev Bi:=Bj 0
inductive Mf(n:av) where
 |append|Tk|reverse|qx|Ba|yb|join|vg
noncomputable def Mf.ctorIdx(x:Mf n):Nat:=@Mf.rec n (λ_=>av) 0 1 2 3 4 5 6 7 x
noncomputable abbrev Me:=Mf 0
mutual
inductive Ex where
 |o|N4|ED
 |d (i:aL)
 |g (l:aa av)
 |b (i:av)
 |i (op:pX) (a b:Ex)
 |C (a:Ex)
 |E (a:Ex)
 |q (op:NS) (es:n8)
 |f (op:CmpOp) (a b:Ex)
 |w (t b e:Ex)
 |h (f:av) (es:n8)
 |A (k:av) (es:n8)
 |k (b:Bi) (es:n8)
 |p (m:Me) (o:Ex) (es:n8)
 |D (f:av) (o:Ex)
 |l (o:Ex) (f:av)
 |m (o i:Ex)
 |tG (o hi:Ex)
 |vz (o hi:Ex)
 |vA (o lo:Ex)
 |r (es:n8)
 |t (es:n8)
 |F (ks:aa (aa av)) (es:n8)
 |qa (ks:aa aL) (es:n8)
 |v (elt:Ex) (i:av) (it:It) (Bb:n8)
 |mT (elt:Ex) (i:av) (it:It) (j:av) (tH:It)
 |G (k v:Ex) (i:av) (it:It)
 |H (e:Ex)
 |B
inductive n8 where
 |b
 |a (e:Ex) (es:n8)
inductive It where
 |a (e:Ex)
 |b (es:n8)
end
mutual
inductive Sx where
 |a (i:av) (e:Ex)
 |i (is:aa av) (e:Ex)
 |m (o:Ex) (f:av) (e:Ex)
 |h (o i e:Ex)
 |j (i:av) (op:pX) (e:Ex)
 |c (e:Ex)
 |f (e:Ex)
 |d (e:Ex)
 |b (t:Ex) (b e:ig)
 |l (t:Ex) (b:ig)
 |e (i:av) (it:It) (b:ig)
 |n (is:aa av) (e1 e2:Ex) (b:ig)
 |k (is:aa av) (e1 e2 en:Ex) (b:ig)
 |g (e:Ex)
 |p
 |o
inductive ig where
 |b
 |a (s:Sx) (ss:ig)
end
theorem aU{T:Prop}(h: ∀G:Prop,(T->G)->G):T:=h T λx=>x
inductive DV where
 |f|j (b:aM)|a (i:aL)|d (l:aa av)
 |c (xs:aa DV)|g (xs:aa DV)
 |h (es:aa (aa av×DV))|o (es:aa (aL×DV))
 |n (k:av) (fs:aa (av×DV))|m
noncomputable def DV.ctorIdx(x:DV):Nat:=@DV.casesOn (λ_=>av) x 0 (λ_=>1) (λ_=>2) (λ_=>3) (λ_=>4) (λ_=>5) (λ_=>6) (λ_=>7) (λ_ _=>8) 9
noncomputable abbrev Rw:=aa aL
inductive bc(α:Type) where
 |c (a:α) (r:Rw)|e (m:aa av) (r:Rw)|d
noncomputable def bc.ctorIdx{α:Type}(x:bc α):Nat:=@bc.rec α (λ_=>av) (λ_ _=>0) (λ_ _=>1) 2 x
noncomputable def bc.bind{α β:Type}(x:bc α)(f:α->Rw->bc β):bc β:=
 match x with
 |.c a r=>f a r
 |.e m r=>.e m r
 |.d=>.d
noncomputable def bc.uo{α:Type}(x:bc α):bc α:=
 match x with
 |.c a r=>.c a r
 |.e _ _=>.d
 |.d=>.d
noncomputable def bc.fG{α:Type}(o:ag α)(r:Rw):bc α:=
 match o with
 |some a=>.c a r
 |none=>.d
noncomputable abbrev Dl:=aa<|ag DV
namespace DV
noncomputable def cZ:DV->ag aL|.a i=>some i|_=>ag.none
noncomputable def fH:DV->ag (aa av)|.d l=>some l|_=>ag.none
noncomputable def bW:DV->ag (aa DV)|.c l=>some l|_=>ag.none
noncomputable def eN:DV->ag (aa DV)|.g l=>some l|_=>ag.none
noncomputable def dN:DV->ag (aa<|aa av×DV)|.h l=>some l|_=>ag.none
noncomputable def oQ:DV->ag (aa<|aL×DV)|.o l=>some l|_=>ag.none
noncomputable def qy:DV->ag (av×aa (av×DV))|.n k fs=>some (k,fs)|_=>ag.none
noncomputable def Cs:DV->ag Ah|.m=>some ()|_=>ag.none
end DV
noncomputable def cA:DV->aM|.f=>true|_=>false
noncomputable def on{α β γ:Type}(x:ag α)(y:ag β)(f:α->β->ag γ):ag γ:=x.bind λa=>y.bind λb=>f a b
noncomputable def jx{α:Type}(vs:aa DV)(f:DV->ag α):ag α:=
 match vs with
 |[]=>none
 |x::r=>match r with
  |[]=>f x
  |_::_=>none
noncomputable def gL{α:Type}(b:aM)(a:α):ag α:=if b=true then some a else none
inductive Sc where
 |none|bool (b:aM)|int (i:aL)|str (l:aa av)|wB
noncomputable def DV.ZC:DV->ag Sc
 |.f=>some .none
 |.j b=>some (.bool b)
 |.a i=>some (.int i)
 |.d l=>some (.str l)
 |.g _=>some .wB
 |.c _=>ag.none
 |.h _=>ag.none
 |.o _=>ag.none
 |.n _ _=>ag.none
 |.m=>ag.none
noncomputable def WU(x y:Sc):ag Bool:=
 match x with
 |.none=>(match y with|.none=>some true|.bool _=>some false|.int _=>some false|.str _=>some false|.wB=>some false)
 |.bool a=>(match y with|.none=>some false|.bool b=>some (a==b)|.int _=>none|.str _=>some false|.wB=>none)
 |.int a=>(match y with|.none=>some false|.bool _=>none|.int b=>some (decide (a=b))|.str _=>some false|.wB=>some false)
 |.str a=>(match y with|.none=>some false|.bool _=>some false|.int _=>some false|.str b=>some (decide (a=b))|.wB=>some false)
 |.wB=>(match y with|.none=>some false|.bool _=>none|.int _=>some false|.str _=>some false|.wB=>none)
noncomputable def cP(x y:DV):ag Bool:=on x.ZC y.ZC WU
noncomputable def N5(s:Sc):ag Bool:=
 match s with
 |.none=>some false
 |.bool b=>some b
 |.int i=>some (decide (i≠0))
 |.str _=>none
 |.wB=>none
noncomputable def j3(x:DV):ag Bool:=x.ZC.bind N5
noncomputable def WV(s:Sc):Bool:=match s with|.none=>false|.bool _=>false|.int _=>false|.str _=>false|.wB=>true
noncomputable def bA(x:DV):Bool:=
 match x.ZC with
 |none=>false
 |some s=> !WV s
noncomputable def big:Int:=18446744073709551616
noncomputable def small(i:aL):Prop:= - big<i/\i<big
noncomputable def gH(i:aL):Bool:=decide (- big<i)&&decide (i<big)
noncomputable def ZD(op:pX)(a b:aL):Int:=match op with|.Add=>a+b|_=>a - b
noncomputable def aQ(i:aL):aa Nat:=(nK<|toString i).cps.toList
noncomputable def j4(l:aa av)(n:aL)(f:av):aa Nat:=bo (n.toNat - l.length) f++l
noncomputable def ZE(op:pX)(i j:aL):ag DV:=
 match op with
 |.Add=>some (.a (i+j))
 |.Sub=>some (.a (i - j))
 |.Mult=>gL (gH i&&gH j) (.a (i*j))
 |.FloorDiv=>gL (decide (j≠0)&&gH j) (.a (i.fdiv j))
 |.Mod=>gL (decide (j≠0)) (.a (i.fmod j))
 |.Pow=>gL (decide (i=10)&&decide (0<=j)&&decide (j<=40)) (.a (10^j.toNat))
 |_=>none
noncomputable def ZF(op:pX)(x y:DV):ag DV:=
 match op with
 |.Add=>on x.fH y.fH λa b=>gL (decide ((a++b).length<=9999)) (.d (a++b))
 |.Mult=>(on x.fH y.cZ λa n=>gL (decide (a.length=1)&&decide (0<=n)&&decide (n<=99)) (.d (bo n.toNat a).flatten)).or
   (on x.bW y.cZ λxs n=>jx xs λz=>gL (decide (0<=n)&&decide (n<=99))<|.c<|bo n.toNat z)
 |_=>none
noncomputable def yc(op:pX)(x y:DV):ag DV:=(on x.cZ y.cZ<|ZE op).or<|ZF op x y
noncomputable def At(f:DV->DV->ag aM):aa DV->aa DV->ag (aa aM)
 |[],[]=>some []
 |x::xs,y::ys=>on (f x y) (At f xs ys) λb bs=>some (b::bs)
 |_,_=>none
noncomputable def EE(f:DV->DV->ag aM):aa (aa av×DV)->aa (aa av×DV)->aM
 |[],[]=>true
 |(k,x)::xs,(k',y)::ys=>decide (k=k')&&f x y==some true&&EE f xs ys
 |_,_=>false
noncomputable def Hb(r:Rw):av->DV->DV->ag aM
 |0,x,y=>cP x y
 |n+1,x,y=>(on x.bW y.bW λxs ys=>if xs.length=ys.length then(At (Hb r n) xs ys).map (λx=>x.all id) else some false).or
   ((on x.eN y.eN λxs ys=>(At (Hb r n) xs ys).map (λx=>x.all id)).or
   ((on x.dN y.dN λxs ys=>gL (EE (Hb r n) xs ys) true).or
   ((on x.Cs y.bW λU ys=>gL ys.isEmpty r.isEmpty).or (cP x y))))
noncomputable def NA(x:DV)(xs:aa DV):ag Bool:=gL (xs.all λy=>(cP y x).isSome)<|xs.any λy=>cP y x==some true
noncomputable def Ln(x y:DV):ag Bool:=
 (y.eN.bind<|NA x).or ((y.bW.bind<|NA x).or<|(on y.dN x.fH λes l=>some (es.lookup l).isSome).or<|on y.oQ x.cZ λes l=>some (es.lookup l).isSome)
noncomputable def Lp(op:CmpOp)(i j:aL):ag Bool:=
 match op with
 |.Lt=>some (decide (i<j))
 |.LtE=>some (decide (i<=j))
 |.Gt=>some (decide (i>j))
 |.GtE=>some (decide (i>=j))
 |_=>none
noncomputable def EF(op:CmpOp)(x y:DV)(r:Rw):ag Bool:=
 match op with
 |.Is=>gL (cA y) (cA x)
 |.IsNot=>gL (cA y) (!cA x)
 |.Lt=>on x.cZ y.cZ (Lp .Lt)
 |.LtE=>on x.cZ y.cZ (Lp .LtE)
 |.Gt=>on x.cZ y.cZ (Lp .Gt)
 |.GtE=>on x.cZ y.cZ (Lp .GtE)
 |.Eq=>Hb r 8 x y
 |.NotEq=>(Hb r 8 x y).map (!·)
 |.In=>Ln x y
 |.NotIn=>(Ln x y).map (!·)
noncomputable def N6(xs:aa DV)(k:aL):ag DV:=if 0<=k then xs[k.toNat]? else if 0<=k+xs.length then xs[(k+xs.length).toNat]? else none
noncomputable def xg(x i:DV):ag DV:=
 (on x.eN i.cZ λvs k=>if 0<=k then vs[k.toNat]? else none).or
 ((on x.fH i.cZ λl k=>if 0<=k then(l[k.toNat]?).map λch=>.d [ch]else none).or
 ((on x.bW i.cZ N6).or ((on x.oQ i.cZ λes k=>es.lookup k).or (on x.dN i.fH λes l=>es.lookup l))))
noncomputable def VE(x hi:DV):ag DV:=on x.bW hi.cZ λxs k=>gL (decide (0<=k)&&decide (k<=9999))<|.c<|xs.take k.toNat
noncomputable def Bc(x hi:DV):ag DV:=on x.fH hi.cZ λl k=>gL (decide (0<=k)&&decide (k<=l.length))<|.d<|l.take k.toNat
noncomputable def Jr(x lo:DV):ag DV:=on x.fH lo.cZ λl k=>gL (decide (0<=k)&&decide (k<=l.length))<|.d<|l.drop k.toNat
noncomputable def sL(x:DV)(f:av):ag DV:=x.qy.bind λp=>if f<=4 then p.2.lookup f else none
noncomputable def tI:aa DV->ag (aa aL)
 |[]=>some []
 |x::r=>on x.cZ (tI r) λi is=>some (i::is)
noncomputable def Js:aa DV->ag (aa<|aa av)
 |[]=>some []
 |x::r=>on x.fH (Js r) λl ls=>some (l::ls)
noncomputable def cG(lo hi:aL):aa DV:=(bp (hi - lo).toNat).map λ(j:av)=>.a<|lo+(j:aL)
noncomputable def qb(hi lo:aL):aa DV:=(bp (hi - lo).toNat).map λ(j:av)=>.a<|hi - (j:aL)
noncomputable def WW(is:aa aL):ag DV:=
 match is with
 |[]=>none
 |i::is=>gL (decide (is.length<=99)) (.a (is.foldl max i))
noncomputable def ZG(x:DV):ag DV:=(x.bW.map λxs=>.a xs.length).or<|(x.oQ.map λes=>.a es.length).or<|x.fH.map λl=>.a l.length
noncomputable def Hc(x:DV):ag DV:=
 match x.fH with
 |some _=>some (.j true)
 |none=>gL (x.eN.isSome||x.qy.isSome||x.bW.isSome) (.j false)
noncomputable def SH(b:Bi)(vs:aa DV):ag DV:=
 match b with
 |.cn=>jx vs ZG
 |.EC=>jx vs λx=>x.cZ.map λi=>.a i.natAbs
 |.pi=>match vs with
  |[]=>none
  |x::r=>jx r λy=>on x.cZ y.cZ λi j=>some<|.a<|max i j
 |.Ll=>jx vs λx=>x.bW.bind λxs=>(tI xs).bind WW
 |.str=>jx vs λx=>x.cZ.bind λi=>gL (gH i&&decide ((aQ i).length<=9999)) (.d (aQ i))
 |.Lm=>jx vs λx=>x.cZ.bind λi=>gL (decide (0<=i)&&decide (i<1000)) (.d [i.toNat])
 |.list=>jx vs λx=>x.bW.map .c
 |.lT=>jx vs λx=>x.cZ.bind λn=>gL (decide (-9999<=n)&&decide (n<=9999)) (.c (cG 0 n))
 |.dict=>jx vs λx=>x.dN.map .h
 |.wA=>jx vs λx=>x.qy.map λp=>.j (p.1==0)
 |.isStr=>jx vs Hc
noncomputable def Hd(x y:DV):ag Bool:=(cP y x).or<|gL (cA x&&y.bW.isSome) false
noncomputable def wC(xs:aa DV)(v:DV):ag DV:=if(xs.all λy=>(cP y v).isSome)=true then(xs.findIdx? λy=>cP y v==some true).map λ(j:av)=>.a j else none
noncomputable def N7(m:Me)(o:DV)(vs:aa DV):ag DV:=
 match m with
 |.qx=>jx vs λv=>(o.bW.bind λxs=>wC xs v).or (o.eN.bind λxs=>wC xs v)
 |.Ba=>jx vs λv=>o.bW.bind λxs=>gL (xs.all λy=>(Hd v y).isSome) (.a (xs.filter λy=>Hd v y==some true).length)
 |.yb=>match vs with
  |[]=>none
  |x::r=>jx r λy=>o.fH.bind λl=>on x.cZ y.fH λn f=>match f with
   |[]=>none
   |ch::f'=>gL (f'.isEmpty&&decide (l.length<=99)&&decide (0<=n)&&decide (n<=99))<|.d<|j4 l n ch
 |.join=>jx vs λx=>on o.fH x.bW λl xs=>(Js xs).bind λls=>gL (l.isEmpty&&decide (xs.length<=99)&&decide (ls.flatten.length<=9999)) (.d ls.flatten)
 |.vg=>jx vs λx=>on o.dN x.fH λes l=>some ((es.lookup l).getD .f)
 |_=>none
noncomputable def EG(m:Me)(o:DV)(vs:aa DV)(r:Rw):bc DV:=
 match m with
 |.Tk=>match o.Cs with
  |none=>.d
  |some _=>match vs with
   |_::_=>.d
   |[]=>match r with
    |d::r'=>.c (.a d) r'
    |[]=>.d
 |m=>bc.fG (N7 m o vs) r
noncomputable def N8(m:Me)(x:DV):Bool:=
 match m with
 |.Tk=>x.Cs.isSome
 |.qx=>x.bW.isSome||x.eN.isSome
 |.Ba=>x.bW.isSome
 |.yb=>x.fH.isSome
 |.join=>x.fH.isSome
 |.vg=>x.dN.isSome
 |_=>false
noncomputable def jD(kd it cx:DV):DV:=.n 0 [(0,kd),(1,it),(2,cx),(3,.j false),(4,.j false)]
noncomputable def ZH(vs:aa DV):ag DV:=
 match vs with
 |[]=>none
 |kd::vs=>match vs with
  |[]=>none
  |it::vs=>match vs with
   |[]=>some<|jD kd it .f
   |cx::vs=>match vs with
    |[]=>some<|jD kd it cx
    |_::_=>none
noncomputable def He(k:av)(vs:aa DV):ag DV:=
 match k with
 |0=>ZH vs
 |1=>gL vs.isEmpty (.n 1 [(0,.d [78,85,76,76]),(2,.f)])
 |2=>gL vs.isEmpty (.n 2 [(0,.d [109,105,115,115,105,110,103]),(2,.f)])
 |_=>none
noncomputable def vB(x:DV):ag (aa DV):=x.bW.or<|x.eN.or<|x.dN.bind λes=>gL (es.all λp=>decide<|p.1.length<=9999)<|es.map λp=>.d p.1
noncomputable def fQ(vs:aa DV):ag (aa DV):=
 match vs with
 |[]=>none
 |x::r=>match r with
  |[]=>x.cZ.bind λn=>gL (decide (-9999<=n)&&decide (n<=9999))<|cG 0 n
  |y::r=>jx r λz=>x.cZ.bind λa=>on y.cZ z.cZ λb d=>gL (decide (d= -1)&&decide (b= -1)&&decide (-1<=a)&&decide (a<=9998))<|qb a b
noncomputable def gn(aW:DV->Rw->bc (aa DV)):aa DV->aa DV->Rw->bc (aa DV)
 |[],acc,r=>.c acc r
 |x::xs,acc,r=>(aW x r).uo.bind λa r'=>gn aW xs (acc++a) r'
noncomputable def mU:aa DV->ag (aa<|aa av×DV)
 |[]=>some []
 |x::r=>x.eN.bind λp=>match p with
  |[]=>none
  |k::p=>jx p λv=>on k.fH (mU r) λk r=>some<|(k,v)::r
noncomputable def fM(δ:Dl)(i:av):ag DV:=δ[i]?.bind id
noncomputable def uq(x:DV):Bool:=
 match x.qy with
 |none=>false
 |some p=>p.1==0&&(p.2.lookup 5).isNone
noncomputable def EH(x:bc DV):bc DV:=
 match x with
 |.c d r=>.c d r
 |.e m r=>bc.fG (gL (decide (m.length<=9999)) (.d m)) r
 |.d=>.d
noncomputable def EI(n:av)(acc:aa DV)(r:Rw):bc DV:=bc.fG ((mU acc).bind λes=>gL (decide (n<=99)&&decide (es.map<|λx=>x.1).Nodup)<|.h es) r
section
variable(ct:av->aa DV->Rw->bc DV)
mutual
noncomputable def dv:Ex->Dl->Rw->bc DV
 |.o,_,r=>.c .f r
 |.N4,_,r=>.c (.j true) r
 |.ED,_,r=>.c (.j false) r
 |.d i,_,r=>.c (.a i) r
 |.g l,_,r=>bc.fG (gL (decide (l.length<=9999)) (.d l)) r
 |.b i,δ,r=>bc.fG (fM δ i) r
 |.i op a b,δ,r=>(dv a δ r).bind λx r=>(dv b δ r).bind λy r=>bc.fG (yc op x y) r
 |.C a,δ,r=>(dv a δ r).bind λx r=>bc.fG (x.cZ.map λi=>.a (-i)) r
 |.E a,δ,r=>(dv a δ r).bind λx r=>bc.fG ((j3 x).map λb=>.j (!b)) r
 |.q op es,δ,r=>dvo op es δ r
 |.f op a b,δ,r=>(dv a δ r).bind λx r=>(dv b δ r).bind λy r=>bc.fG ((EF op x y r).map .j) r
 |.w t b e,δ,r=>(gi t δ r).bind λc r=>if c=true then dv b δ r else dv e δ r
 |.h f es,δ,r=>(mE es δ r).bind λvs r=>ct f vs r
 |.A k es,δ,r=>(mE es δ r).bind λvs r=>bc.fG (He k vs) r
 |.k b es,δ,r=>(mE es δ r).bind λvs r=>bc.fG (SH b vs) r
 |.p m o es,δ,r=>(dv o δ r).bind λx r=>if N8 m x=true then(mE es δ r).bind λvs r=>EG m x vs r else .d
 |.D f o,δ,r=>(dv o δ r).bind λx r=>if uq x=true then ct f [x] r else .d
 |.l o f,δ,r=>(dv o δ r).bind λx r=>bc.fG (sL x f) r
 |.m o i,δ,r=>(dv o δ r).bind λx r=>(dv i δ r).bind λy r=>bc.fG (xg x y) r
 |.tG o hi,δ,r=>(dv o δ r).bind λx r=>(dv hi δ r).bind λy r=>bc.fG (VE x y) r
 |.vz o hi,δ,r=>(dv o δ r).bind λx r=>(dv hi δ r).bind λy r=>bc.fG (Bc x y) r
 |.vA o lo,δ,r=>(dv o δ r).bind λx r=>(dv lo δ r).bind λy r=>bc.fG (Jr x y) r
 |.r es,δ,r=>(mE es δ r).bind λvs r=>bc.fG (gL (decide (vs.length<=999)) (.c vs)) r
 |.t es,δ,r=>(mE es δ r).bind λvs r=>bc.fG (gL (decide (vs.length<=999)) (.g vs)) r
 |.F ks es,δ,r=>(mE es δ r).bind λvs r=>bc.fG (gL (decide (ks.length<=99)&&decide (vs.length=ks.length)) (.h (ks.zip vs))) r
 |.qa ks es,δ,r=>(mE es δ r).bind λvs r=>bc.fG (gL (decide (ks.length<=99)&&decide (vs.length=ks.length)) (.o (ks.zip vs))) r
 |.v elt i it Bb,δ,r=>(Au it δ r).bind λxs r=>(gn (λx r=>(Y6 Bb (δ.set i (some x)) r).bind λb r1=>if b=true then(dv elt (δ.set i (some x)) r1).bind λv r=>.c [v] r else .c [] r1) xs [] r).bind λacc r=>.c (.c acc) r
 |.mT elt i it j tH,δ,r=>(Au it δ r).bind λxs r=>if xs.length<=99 then
   (gn (λx r=>(Au tH ((δ.set j none).set i (some x)) r).bind λys r=>if ys.length<=99 then
    gn (λy r=>(dv elt (((δ.set j none).set i (some x)).set j (some y)) r).bind λv r=>.c [v] r) ys [] r else .d) xs [] r).bind λacc r=>.c (.c acc) r else .d
 |.G k v i it,δ,r=>(Au it δ r).bind λxs r=>
   (gn (λx r=>(dv k (δ.set i<|some x) r).bind λkv r=>(bc.fG kv.fH r).bind λl r=>(dv v (δ.set i<|some x) r).bind λvv r=>.c [.g [.d l,vv]] r) xs [] r).bind λacc r=>EI xs.length acc r
 |.H e,δ,r=>EH (dv e δ r)
 |.B,_,_=>.d
noncomputable def gi:Ex->Dl->Rw->bc aM
 |.E a,δ,r=>(gi a δ r).bind λb r=>.c (!b) r
 |.q op es,δ,r=>Lq op es δ r
 |.f op a b,δ,r=>(dv a δ r).bind λx r=>(dv b δ r).bind λy r=>bc.fG (EF op x y r) r
 |.b i,δ,r=>bc.fG ((fM δ i).bind j3) r
 |.h f es,δ,r=>(mE es δ r).bind λvs r=>(ct f vs r).bind λv r=>bc.fG (j3 v) r
 |.k b es,δ,r=>(mE es δ r).bind λvs r=>(bc.fG (SH b vs) r).bind λv r=>bc.fG (j3 v) r
 |.l o f,δ,r=>(dv o δ r).bind λx r=>(bc.fG (sL x f) r).bind λv r=>bc.fG (j3 v) r
 |_,_,_=>.d
noncomputable def dvo:NS->n8->Dl->Rw->bc DV
 |_,.b,_,_=>.d
 |op,.a e es,δ,r=>match es with
  |.b=>dv e δ r
  |.a _ _=>(dv e δ r).bind λv r=>(bc.fG (j3 v) r).bind λb r=>match op with
   |.And=>if b=true then dvo op es δ r else .c v r
   |.Or=>if b=true then .c v r else dvo op es δ r
noncomputable def Lq:NS->n8->Dl->Rw->bc aM
 |op,.b,_,r=>match op with
  |.And=>.c true r
  |.Or=>.c false r
 |op,.a e es,δ,r=>(gi e δ r).bind λb r=>match op with
  |.And=>if b=true then Lq .And es δ r else .c false r
  |.Or=>if b=true then .c true r else Lq .Or es δ r
noncomputable def Y6:n8->Dl->Rw->bc aM
 |.b,_,r=>.c true r
 |.a e es,δ,r=>(gi e δ r).uo.bind λb r=>if b=true then Y6 es δ r else .c false r
noncomputable def mE:n8->Dl->Rw->bc (aa DV)
 |.b,_,r=>.c [] r
 |.a e es,δ,r=>(dv e δ r).bind λv r=>(mE es δ r).bind λvs r=>.c (v::vs) r
noncomputable def Au:It->Dl->Rw->bc (aa DV)
 |.a e,δ,r=>(dv e δ r).bind λv r=>bc.fG (vB v) r
 |.b es,δ,r=>(mE es δ r).bind λvs r=>bc.fG (fQ vs) r
end
end
noncomputable abbrev Sl:=aa<|ag<|aM×DV
noncomputable def adV(p:aM×DV):ag DV:=if p.1=true then none else some p.2
noncomputable def bU(δ:Sl):Dl:=δ.map λo=>o.bind adV
noncomputable def b4(δ:Sl):Dl:=δ.map λo=>o.map<|λx=>x.2
noncomputable def rd(δ:Sl):Sl:=δ.map λo=>o.map λp=>(false,p.2)
inductive SR where
 |a (δ:Sl) (r:Rw)|b (d:DV) (r:Rw)|g (d:DV) (r:Rw)|c (m:aa av) (r:Rw)|e
noncomputable def SR.ctorIdx(x:SR):Nat:=@SR.rec (λ_=>av) (λ_ _=>0) (λ_ _=>1) (λ_ _=>2) (λ_ _=>3) 4 x
noncomputable def bc.fZ{α:Type}(x:bc α)(f:α->Rw->SR):SR:=
 match x with
 |.c a r=>f a r
 |.e m r=>.c m r
 |.d=>.e
noncomputable def d9{α:Type}(plain:α->aM)(x:Dl->Rw->bc α)(δ:Sl)(r:Rw):bc (α×Sl):=
 match x (bU δ) r with
 |.c d r=>.c (d,δ) r
 |.e m r=>.e m r
 |.d=>(x (b4 δ) r).bind λd r=>.c (d,if plain d=true then δ else rd δ) r
noncomputable def tJ:av->Bool:=λf=>f==16||f==59||f==2000
noncomputable def rf:av->Bool:=λf=>f==62
noncomputable def tK:Ex->aM
 |.r _=>true
 |.F _ _=>true
 |.qa _ _=>true
 |.v _ _ _ _=>true
 |.tG _ _=>true
 |.k b _=>match b with|.list=>true|.dict=>true|_=>false
 |_=>false
noncomputable def N9(es:n8):Bool:=
 match es with
 |.b=>false
 |.a _ es=>match es with
  |.b=>false
  |.a ie es=>tK ie&&match es with
   |.b=>true
   |.a ae es=>tK ae&&match es with
    |.b=>true
    |.a _ _=>false
noncomputable def ur:Ex->aM
 |.A k es=>k==0&&N9 es
 |.h f _=>tJ f
 |.D f _=>tJ f
 |e=>tK e
noncomputable def di(δ:Sl)(i:av)(d:DV):Sl:=δ.set i<|some (false,d)
noncomputable def gI(δ:Sl)(i:av)(d:DV):Sl:=δ.set i<|some (true,d)
noncomputable def Bd(δ:Sl):aa av->aa DV->Sl
 |i::is,v::vs=>Bd (di δ i v) is vs
 |_,_=>δ
noncomputable def SR.seq(x:SR)(f:Sl->Rw->SR):SR:=
 match x with
 |.a δ r=>f δ r
 |.b d r=>.b d r
 |.g d r=>.g d r
 |.c m r=>.c m r
 |.e=>.e
noncomputable def dH(aW:DV->Sl->Rw->SR):aa DV->Sl->Rw->SR
 |[],δ,r=>.a δ r
 |x::xs,δ,r=>(aW x δ r).seq λδ r=>dH aW xs δ r
noncomputable def jE(t:Sl->Rw->bc aM)(b:Sl->Rw->SR):av->Sl->Rw->SR
 |0,_,_=>.e
 |n+1,δ,r=>(t δ r).fZ λc r=>if c=true then(b δ r).seq λδ r=>jE t b n δ r else .a δ r
noncomputable def qQ{κ:Type}[g8 κ]{α:Type}(f:κ)(v:α):aa (κ×α)->aa (κ×α)
 |[]=>[(f,v)]
 |p::r=>if p.1=f then(f,v)::r else p::qQ f v r
noncomputable def oR(x i v:DV):ag DV:=
 (on x.bW i.cZ λxs k=>gL (decide (0<=k)&&decide (k<xs.length))<|.c<|xs.set k.toNat v).or
 ((on x.dN i.fH λes l=>gL (decide (es.length<=98)) (.h (qQ l v es))).or
 (on x.oQ i.cZ λes k=>gL (decide (es.length<=9998)) (.o (qQ k v es))))
noncomputable def adW(p:aM×DV):ag DV:=if p.1=true then some p.2 else none
noncomputable def dJ(δ:Sl)(i:av):ag DV:=δ[i]?.bind λo=>o.bind adW
noncomputable def Hf(p:aM×DV):ag DV:=if p.1=true then none else some p.2
noncomputable def dO{α:Type}(o:ag α)(f:α->SR):SR:=
 match o with
 |some a=>f a
 |none=>.e
noncomputable def Lr(x d:DV):ag DV:=x.bW.bind λxs=>gL (decide<|xs.length<9999)<|.c<|xs++[d]
noncomputable def j5(is:aa av)(aW:Sl->Rw->SR)(x:DV)(δ:Sl)(r:Rw):SR:=dO (x.eN.bind λvs=>gL (decide<|vs.length=is.length) vs) λvs=>aW (Bd δ is vs) r
noncomputable def Ct(x:DV):ag (DV×DV×DV):=x.qy.bind λp=>on (p.2.lookup 0) (p.2.lookup 1) λk it=>(p.2.lookup 2).map λcx=>(k,it,cx)
noncomputable def ac1(d:DV):Bool:=cA d||d.dN.isSome
noncomputable def Ex.VF:Ex->ag av
 |.b j=>some j
 |_=>ag.none
noncomputable def Av(e:Ex)(δ:Sl):Sl:=(e.VF.bind λj=>(dJ δ j).map<|di δ j).getD δ
theorem Be(h:dJ δ j=o):Av (.b j) δ=(o.map<|di δ j).getD δ:=aE (λo=>(qv (di δ j) o).getD δ) h
noncomputable def wD(x y:Dl->Rw->bc DV)(i f:av)(δ:Sl)(r:Rw):SR:=
 dO ((dJ δ i).bind Ct) λv=>(x (bU δ) r).fZ λd r=>(y (bU δ) r).fZ λq r=>
  if f=1 then dO (v.2.1.bW.bind λU=>oR v.2.1 q d) λy=>.a (gI δ i<|jD v.1 y v.2.2) r
  else if f=2 then dO (v.2.2.dN.bind λU=>oR v.2.2 q d) λy=>.a (gI δ i<|jD v.1 v.2.1 y) r
  else .e
section
variable(ct:av->aa DV->Rw->bc DV)(mu:aa av)
mutual
noncomputable def ds:Sx->Sl->Rw->SR
 |.a i e,δ,r=>if(mu.contains i&&ur e)=true then(match dv ct e (bU δ) r with
    |.c d r=>.a (gI δ i d) r
    |.e m r=>.c m r
    |.d=>(dv ct e (b4 δ) r).fZ λd r=>.a (gI (rd δ) i d) r)
   else(d9 bA (dv ct e) δ r).fZ λp r=>.a (di p.2 i p.1) r
 |.i is e,δ,r=>(d9 bA (dv ct e) δ r).fZ λp r=>j5 is (λδ r=>.a δ r) p.1 p.2 r
 |.m o f e,δ,r=>match o with
   |.b i=>(dv ct e (bU δ) r).fZ λd r=>dO ((dJ δ i).bind Ct) λv=>if(f==2&&tK e&&d.dN.isSome)=true then .a (gI δ i<|jD v.1 v.2.1 d) r else .e
   |_=>.e
 |.h o ie e,δ,r=>match o with
   |.b i=>(d9 bA (dv ct e) δ r).fZ λp r=>dO (dJ p.2 i) λU=>(d9 bA (dv ct ie) p.2 r).fZ λq r=>dO ((dJ q.2 i).bind λx=>oR x q.1 p.1) λy=>.a (gI q.2 i y) r
   |.l o f=>(match o with
    |.b i=>wD (dv ct e) (dv ct ie) i f (Av e δ) r
    |_=>.e)
   |_=>.e
 |.j i op e,δ,r=>dO (δ[i]?.bind λo=>o.bind λp=>(Hf p).bind DV.cZ) λa=>(d9 bA (dv ct e) δ r).fZ λp r=>dO p.1.cZ λb=>.a (di p.2 i (.a (ZD op a b))) r
 |.c e,δ,r=>(dv ct e (b4 δ) r).fZ λd r=>.b d r
 |.f e,δ,r=>(match e with
   |.b i=>dO (dJ δ i) λd=>.g d r
   |.A k es=>(match es with
    |.a ke (.a ie (.a ae .b))=>(match ae with
     |.b j=>if(k==0&&tK ie)=true then(dv ct ke (bU δ) r).fZ λkd r=>(dv ct ie (bU δ) r).fZ λit r=>dO (δ[j]?.bind id) λp=>if(cA p.2||(p.1&&p.2.dN.isSome))=true then .g (jD kd it p.2) r else .e else .e
     |_=>.e)
    |_=>.e)
   |.h f es=>if tJ f=true then(mE ct es (b4 δ) r).fZ λvs r=>(ct f vs r).fZ λd r=>.g d r else .e
   |.D f o=>if tJ f=true then(dv ct o (b4 δ) r).fZ λx r=>if uq x=true then(ct f [x] r).fZ λd r=>.g d r else .e else .e
   |_=>.e)
 |.d e,δ,r=>(match e with
   |.p m o es=>(match o with
    |.b i=>(match m with
     |.append=>(match es with
      |.a a .b=>dO ((dJ δ i).bind DV.bW) λU=>(d9 bA (dv ct a) δ r).fZ λp r=>dO ((dJ p.2 i).bind λx=>Lr x p.1) λy=>.a (gI p.2 i y) r
      |_=>.e)
     |.reverse=>(match es with
      |.b=>dO ((dJ δ i).bind DV.bW) λxs=>.a (gI δ i<|.c xs.reverse) r
      |.a _ _=>.e)
     |_=>.e)
    |_=>.e)
   |.h f es=>if rf f=true then(match es with
     |.a (.b i) es=>dO (dJ δ i) λd=>(mE ct es (bU δ) r).fZ λvs r=>(ct f (d::vs) r).fZ λd r=>.a (gI δ i d) r
     |_=>.e)
    else(d9 bA (dv ct<|.h f es) δ r).fZ λp r=>if cA p.1=true then .a p.2 r else .e
   |_=>.e)
 |.b t b e,δ,r=>(gi ct t (b4 δ) r).fZ λc r=>if c=true then bM b δ r else bM e δ r
 |.l t b,δ,r=>jE (λδ r=>gi ct t (b4 δ) r) (λδ r=>bM b δ r) 99 δ r
 |.e i it b,δ,r=>match it with
   |.a e=>(d9 bA (dv ct e) δ r).fZ λp r=>dO (vB p.1) λxs=>dH (λx δ r=>bM b (di δ i x) r) xs p.2 r
   |.b es=>(d9 (λxs=>xs.all bA) (mE ct es) δ r).fZ λp r=>dO (fQ p.1) λxs=>dH (λx δ r=>bM b (di δ i x) r) xs p.2 r
 |.n is e1 e2 b,δ,r=>(d9 bA (dv ct e1) δ r).fZ λp r=>(d9 bA (dv ct e2) p.2 r).fZ λq r=>dO (on p.1.bW q.1.bW λxs ys=>gL (decide (xs.length<=ys.length)) (xs,ys)) λz=>
   dH (j5 is λδ r=>bM b δ r) ((z.1.zip z.2).map λp=>.g [p.1,p.2]) q.2 r
 |.k is e1 e2 en b,δ,r=>(d9 bA (dv ct e1) δ r).fZ λp r=>(d9 bA (dv ct e2) p.2 r).fZ λq r=>(d9 bA (dv ct en) q.2 r).fZ λm r=>
   dO (p.1.bW.bind λxs=>on q.1.bW m.1.cZ λys n=>gL (decide (xs.length<=ys.length)&&decide (xs.length<=n.toNat)&&decide (0<=n)&&decide (n<=9999)) (xs,ys,n)) λz=>
   dH (j5 is λδ r=>bM b δ r) ((z.1.zip<|z.2.1.zip<|cG 0 z.2.2).map λp=>.g [p.1,p.2.1,p.2.2]) m.2 r
 |.g e,δ,r=>(dv ct e (b4 δ) r).fZ λd r=>dO d.fH λm=>.c m r
 |.p,δ,r=>.a δ r
 |.o,_,_=>.e
noncomputable def bM:ig->Sl->Rw->SR
 |.b,δ,r=>.a δ r
 |.a s ss,δ,r=>(ds s δ r).seq λδ r=>bM ss δ r
end
end
structure bx where
 ps:aa b9
 Λ:aa (ag b9)
 fg:av
 mu:aa av
 body:ig
noncomputable def eH(I:bx)(args:aa DV):Sl:=args.map (λd=>some (false,d))++bo (I.Λ.length - I.ps.length) none
noncomputable def Od(x:SR):bc DV:=
 match x with
 |.b d r=>.c d r
 |.a _ r=>.c .f r
 |.c m r=>.e m r
 |.g _ _=>.d
 |.e=>.d
noncomputable def ZI(x:SR):bc DV:=
 match x with
 |.g d r=>.c d r
 |.c m r=>.e m r
 |.b _ _=>.d
 |.a _ _=>.d
 |.e=>.d
noncomputable def Tl(x:SR):bc DV:=
 match x with
 |.a δ r=>bc.fG (dJ δ 0) r
 |.g _ _=>.d
 |.c _ _=>.d
 |.b _ _=>.d
 |.e=>.d
noncomputable def eR(ct:av->aa DV->Rw->bc DV)(I:bx)(args:aa DV)(r:Rw):bc DV:=
 if args.length=I.ps.length then Od (bM ct I.mu I.body (eH I args) r) else .d
noncomputable def Cu(ct:av->aa DV->Rw->bc DV)(I:bx)(args:aa DV)(r:Rw):bc DV:=
 if args.length=I.ps.length then ZI (bM ct I.mu I.body (eH I args) r) else .d
noncomputable def Cv(I:bx)(args:aa DV):Sl:=
 match args with
 |[]=>[]
 |d::args=>some (true,d)::(args.map (λd=>some (false,d))++bo (I.Λ.length - I.ps.length) none)
noncomputable def Ls(ct:av->aa DV->Rw->bc DV)(I:bx)(args:aa DV)(r:Rw):bc DV:=
 if args.length=I.ps.length then Tl (bM ct I.mu I.body (Cv I args) r) else .d
theorem nn{α:Type}{a:α}{P:Prop}(e:none=some a):P:=nomatch e
set_option genInjectivity false in
structure Cx where
 prog:pg
 w:World
 K:uh
 cV:cy
 wE:az
 code:az
 s0:af
 mg:b9->ag ak
 mb:b9->ag ak
 cls:av->az
 ue:av->az
 iG:av->b9
 fY:av->b9
 Cw:av
 nP:b9
 row:ag az
noncomputable def br(l:aa av):Str:=⟨l.toArray⟩
noncomputable def aO:av->aa av
 |0=>[107,105,110,100]
 |1=>[105,116,101,109,115]
 |2=>[97,116,116,114,115]
 |3=>[115,104,97,114,101,100]
 |4=>[108,111,111,115,101]
 |_=>[99,111,112,121]
def j6(h:cy)(dx:az)(m:b9->ag ak)(n:av):Prop:=
 ∃o es ep,h.get? dx=some o/\o.data=.dict es ep/\YV es/\(∀name,xY es name=m name)/\es.size<=n/\o.ExactDict
noncomputable abbrev eZ(vs:aa ak)(n:av):Obj:={cls:=.type "list",data:=.seq vs.toArray n}
class inductive dm (c:Cx) (H:az->Prop) (h:cy):ak->DV->Prop
 |none:dm c H h .none .f
 |bool (b:aM):dm c H h (.bool b) (.j b)
 |int (i:aL) (t:Tok):dm c H h (.int i t) (.a i)
 |str (l:aa av) (t:Tok) (hl:l.length<=9999):dm c H h (.str (br l) t) (.d l)
 |tuple {a:az} {o:Obj} {n:av} {vs:aa ak} {xs:aa DV} (ho:h.get? a=some o) (hc:o.cls=.type "tuple") (hd:o.data=.seq vs.toArray n) (hx:o.dict=none)
   (hH: ¬H a) (hl:vs.length<=9999) (hn:vs.length=xs.length) (hs: ∀(i:av) v d,vs[i]?=some v->xs[i]?=some d->dm c H h v d):dm c H h (.ref a) (.g xs)
 |list {a:az} {n:av} {vs:aa ak} {xs:aa DV} (ho:h.get? a=some (eZ vs n)) (hH: ¬H a) (hl:vs.length<=9999)
   (hn:vs.length=xs.length) (hs: ∀(i:av) v d,vs[i]?=some v->xs[i]?=some d->dm c H h v d):dm c H h (.ref a) (.c xs)
 |Bf {a:az} {ep:av} {kvs:aa (aa av×ak)} {xs:aa (aa av×DV)} (hm:(a==f5)=false) (hd:h.DictAt (eQ c.prog c.w) a (kvs.map λp=>(br p.1,p.2)) ep)
   (hH: ¬H a) (hl:kvs.length<=99) (hn:kvs.length=xs.length) (hk: ∀(i:av) p q,kvs[i]?=some p->xs[i]?=some q->p.1=q.1) (hs: ∀(i:av) p q,kvs[i]?=some p->xs[i]?=some q->dm c H h p.2 q.2):dm c H h (.ref a) (.h xs)
 |Bg {a:az} {kvs:aa (aL×ak)} {xs:aa (aL×DV)} (hm:(a==f5)=false) (hd:h.DictOf (gN c.prog c.w) a kvs)
   (hH: ¬H a) (hl:kvs.length<=9999) (hn:kvs.length=xs.length) (hk: ∀(i:av) p q,kvs[i]?=some p->xs[i]?=some q->p.1=q.1) (hs: ∀(i:av) p q,kvs[i]?=some p->xs[i]?=some q->dm c H h p.2 q.2):dm c H h (.ref a) (.o xs)
 |Oe {a dx:az} {k:av} {m:b9->ag ak} {fs:aa (av×ak)} {xs:aa (av×DV)} (ho:h.get? a=some (iF (c.cls k) dx)) (hq:k<=2) (hH: ¬H a) (hx: ¬H dx) (hm:j6 h dx m fs.length)
   (hf: ∀f≤5,m (br<|aO f)=fs.lookup f) (hn:fs.length=xs.length) (hk: ∀(i:av) p q,fs[i]?=some p->xs[i]?=some q->p.1=q.1) (hs: ∀(i:av) p q,fs[i]?=some p->xs[i]?=some q->dm c H h p.2 q.2):dm c H h (.ref a) (.n k xs)
 |row {a:az} (hr:c.row=some a):dm c H h (.ref a) .m
structure A2{α β:Type}(R:α->β->Prop)(vs:aa α)(xs:aa β):Prop where
 cn:vs.length=xs.length
 cx: ∀(i:av) v d,vs[i]?=some v->xs[i]?=some d->R v d
abbrev e8(c:Cx)(H:az->Prop)(h:cy):aa ak->aa DV->Prop:=A2<|dm c H h
abbrev j7(c:Cx)(H:az->Prop)(h:cy){κ:Type}:aa (κ×ak)->aa (κ×DV)->Prop:=A2 λp q=>p.1=q.1/\dm c H h p.2 q.2
def mF(H:az->Prop)(h h':cy):Prop:= ∀b o,h.get? b=some o-> ¬H b->h'.get? b=some o
def qR(H H':az->Prop)(h:cy):Prop:= ∀b,H' b->H b\/h.get? b=none
theorem qR.no{H H':az->Prop}(u:qR H H' h)(e:h.get? b=some o)(n: ¬H b): ¬H' b:=λq=>(u b q).elim n λz=>nomatch z.symm.trans e
theorem qR.cm(H h):qR H H h:=λU q=>.inl q
theorem qR.f9{H H':az->Prop}(l: ∀b,H' b->H b):qR H H' h:=λb q=>.inl<|l b q
theorem mF.cm(H h):mF H h h:=λU U e U=>e
theorem mF.all(k: ∀b o,h.get? b=some o->h'.get? b=some o):mF H h h':=λb o e U=>k b o e
theorem j6.keep(x:j6 h dx m n)(k: ∀o,h.get? dx=some o->h'.get? dx=some o):j6 h' dx m n:=by
 refine A9 x λo es ep h9=>cK h9 λe r=>?_
 exact⟨o,es,ep,k _ e,r⟩
theorem j6.obj(x:j6 h dx m n): ∃o,h.get? dx=some o:=by
 refine A9 x λo U U h9=>cK h9 λe U=>?_
 exact⟨o,e⟩
def ZJ{α β:Type}(R:α->β->Prop)(a:ag α)(b:ag β):Prop:=
 match a with
 |none=>(match b with|none=>True|some _=>cC)
 |some x=>(match b with|none=>cC|some y=>R x y)
namespace A2
variable{α β:Type}{R R':α->β->Prop}{v:α}{d:β}{vs ws:aa α}{xs ys:aa β}
theorem nil:A2 R [] []:=⟨rfl,λU U U e=>nomatch e⟩
theorem cons(a:R v d)(r:A2 R vs xs):A2 R (v::vs) (d::xs):=⟨aE (λx=>x+1) r.cn,λi=>by
 cases i with
 |zero=>exact λU U e1 e2=>am e1▸am e2▸a
 |succ i=>exact λU U e1 e2=>r.cx i _ _ e1 e2⟩
theorem Tm(x:A2 R vs xs)(k: ∀v d,R v d->R' v d):A2 R' vs xs:=⟨x.cn,λi v d e1 e2=>k _ _<|x.cx i v d e1 e2⟩
theorem vg(x:A2 R vs xs){i:av}{d}(e:xs[i]?=some d): ∃v,vs[i]?=some v/\R v d:=by
 refine bN (aY.mp e) λhi U=>?_
 have e':=aC (l:=vs)<|eG hi x.cn.symm
 exact⟨_,e',x.cx _ _ _ e' e⟩
theorem Lu(x:A2 R vs xs){i:av}{v}(e:vs[i]?=some v): ∃d,xs[i]?=some d/\R v d:=by
 refine bN (aY.mp e) λhi U=>?_
 have e':=aC (l:=xs)<|eG hi x.cn
 exact⟨_,e',x.cx _ _ _ e e'⟩
theorem mem(x:A2 R vs xs){v}(e:v∈vs): ∃d,d∈xs/\R v d:=by
 refine bN (List.mem_iff_getElem?.mp e) λi e=>?_
 refine bN (x.Lu e) λd h9=>cK h9 λe' r=>?_
 exact⟨d,bG e',r⟩
theorem un(x:A2 R vs (d::xs)): ∃v ws,vs=v::ws/\R v d/\A2 R ws xs:=by
 cases vs with
 |nil=>exact nomatch x.cn
 |cons v ws=>exact⟨v,ws,rfl,x.cx 0 _ _ rfl rfl,dc x.cn,λi=>x.cx (i+1)⟩
theorem un'(x:A2 R (v::vs) xs): ∃d ys,xs=d::ys/\R v d/\A2 R vs ys:=by
 cases xs with
 |nil=>exact nomatch x.cn
 |cons d ys=>exact⟨d,ys,rfl,x.cx 0 _ _ rfl rfl,dc x.cn,λi=>x.cx (i+1)⟩
theorem Hg(x:A2 R vs []):vs=[]:=bY x.cn
theorem jx(x:A2 R vs [d]): ∃v,vs=[v]/\R v d:=by
 refine jK x.un λv ws h9=>n7 h9 λCy a r=>?_
 refine aK Cy ?_
 exact⟨v,by rw[r.Hg],a⟩
theorem append(x:A2 R vs xs)(y:A2 R ws ys):A2 R (vs++ws) (xs++ys):=by
 induction xs generalizing vs with
 |nil=>cases x.Hg;exact y
 |cons d xs ih=>obtain⟨v,ws,rfl,a,r⟩:=x.un;exact .cons a (ih r)
theorem ZK(x:A2 R vs xs)(y:R v d):A2 R (vs++[v]) (xs++[d]):=x.append<|.cons y .nil
theorem set(x:A2 R vs xs)(y:R v d)(i:av):A2 R (vs.set i v) (xs.set i d):=by
 induction xs generalizing vs i with
 |nil=>cases x.Hg;exact .nil
 |cons z xs ih=>
  refine jK x.un λu ws h9=>n7 h9 λCy a r=>?_
  refine aK Cy ?_
  cases i with
  |zero=>exact .cons y r
  |succ i=>exact .cons a<|ih r i
theorem take(x:A2 R vs xs)(i:av):A2 R (vs.take i) (xs.take i):=by
 induction xs generalizing vs i with
 |nil=>cases x.Hg;rw[WM,WM];exact .nil
 |cons z xs ih=>
  refine jK x.un λu ws h9=>n7 h9 λCy a r=>?_
  refine aK Cy ?_
  cases i with
  |zero=>exact .nil
  |succ i=>exact .cons a<|ih r i
theorem reverse(x:A2 R vs xs):A2 R vs.reverse xs.reverse:=by
 induction xs generalizing vs with
 |nil=>cases x.Hg;exact .nil
 |cons d xs ih=>
  refine jK x.un λv ws h9=>n7 h9 λCy a r=>?_
  refine aK Cy ?_
  rw[ph,ph]
  exact(ih r).ZK a
theorem replicate(a:R v d)(n:av):A2 R (bo n v) (bo n d):=by
 induction n with
 |zero=>exact .nil
 |succ n ih=>exact .cons a ih
theorem d9{κ α β:Type}[BEq κ]{R:α->β->Prop}{fs:aa (κ×α)}{xs:aa (κ×β)}(x:A2 (λp q=>p.1=q.1/\R p.2 q.2) fs xs)(k:κ):ZJ R (fs.lookup k) (xs.lookup k):=by
 induction xs generalizing fs with
 |nil=>exact x.Hg▸trivial
 |cons q xs ih=>
  cases fs with
  |nil=>exact nomatch x.cn
  |cons p fs=>
   have a:=x.cx 0 p q rfl rfl
   have i:=ih ⟨dc x.cn,λi=>x.cx<|i+1⟩
   refine(?_:ZJ R (match k==p.1 with|true=>ag.some p.2|false=>fs.lookup k) (match k==q.1 with|true=>ag.some q.2|false=>xs.lookup k))
   refine aK a.1 ?_
   cases k==q.1
   ·exact i
   ·exact a.2
theorem some{κ α β:Type}[BEq κ]{R:α->β->Prop}{fs:aa (κ×α)}{xs:aa (κ×β)}(x:A2 (λp q=>p.1=q.1/\R p.2 q.2) fs xs){k:κ}{d}(e:xs.lookup k=some d): ∃v,fs.lookup k=some v/\R v d:=by
 have l:=x.d9 k
 rw[e]at l
 cases q:fs.lookup k with
 |none=>rw[q]at l;exact l.elim
 |some v=>rw[q]at l;exact⟨v,rfl,l⟩
theorem none{κ α β:Type}[BEq κ]{R:α->β->Prop}{fs:aa (κ×α)}{xs:aa (κ×β)}(x:A2 (λp q=>p.1=q.1/\R p.2 q.2) fs xs){k:κ}(e:xs.lookup k=none):fs.lookup k=none:=by
 have l:=x.d9 k
 rw[e]at l
 cases q:fs.lookup k with
 |none=>rfl
 |some v=>rw[q]at l;exact l.elim
end A2
section
variable{c:Cx}{H H':az->Prop}{h h':cy}{v u:ak}{d x y:DV}{vs:aa ak}{xs:aa DV}
theorem dm.aW(k:mF H h h')(u:qR H H' h)(D:dm c H h v d):dm c H' h' v d:=by
 induction D with
 |none=>exact .none
 |bool b=>exact .bool b
 |int i t=>exact .int i t
 |str l t e=>exact .str l t e
 |tuple ho hc hd hx hH hl hn hs ih=>exact .tuple (k _ _ ho hH) hc hd hx (u.no ho hH) hl hn ih
 |list ho hH hl hn hs ih=>exact .list (k _ _ ho hH) (u.no ho hH) hl hn ih
 |Bf hm hd hH hl hn hk hs ih=>obtain⟨o,es,e,r⟩:=hd;exact .Bf hm ⟨o,es,k _ _ e hH,r⟩ (u.no e hH) hl hn hk ih
 |Bg hm hd hH hl hn hk hs ih=>obtain⟨o,es,ep,e,r⟩:=hd;exact .Bg hm ⟨o,es,ep,k _ _ e hH,r⟩ (u.no e hH) hl hn hk ih
 |Oe ho hq hH hx hm hf hn hk hs ih=>obtain⟨o,e⟩:=hm.obj;exact .Oe (k _ _ ho hH) hq (u.no ho hH) (u.no e hx) (hm.keep λo e=>k _ o e hx) hf hn hk ih
 |row hr=>exact .row hr
theorem e8.aW(k:mF H h h')(u:qR H H' h)(D:e8 c H h vs xs):e8 c H' h' vs xs:=D.Tm λU U=>dm.aW k u
theorem dm.g9(x:dm c H h v d)(k:mF H h h'):dm c H h' v d:=x.aW k<|qR.cm _ _
theorem e8.g9(x:e8 c H h vs xs)(k:mF H h h'):e8 c H h' vs xs:=e8.aW k (qR.cm _ _) x
inductive d4(c:Cx)(H:az->Prop)(h:cy)(v:ak)(xs:aa DV):Prop
 |mk {a n vs} (e:v=.ref a) (ho:h.get? a=some (eZ vs n)) (hH: ¬H a) (hl:vs.length<=9999) (hs:e8 c H h vs xs)
inductive pj(c:Cx)(H:az->Prop)(h:cy)(v:ak)(xs:aa DV):Prop
 |mk {a o n vs} (e:v=.ref a) (ho:h.get? a=some o) (hc:o.cls=.type "tuple") (hd:o.data=.seq vs.toArray n) (hx:o.dict=none) (hH: ¬H a) (hl:vs.length<=9999) (hs:e8 c H h vs xs)
inductive rY(c:Cx)(H:az->Prop)(h:cy)(v:ak)(xs:aa (aa av×DV)):Prop
 |mk {a ep} {kvs:aa (aa av×ak)} (e:v=.ref a) (hm:(a==f5)=false) (hd:h.DictAt (eQ c.prog c.w) a (kvs.map λp=>(br p.1,p.2)) ep) (hH: ¬H a) (hl:kvs.length<=99) (hs:j7 c H h kvs xs)
inductive Jt(c:Cx)(H:az->Prop)(h:cy)(v:ak)(xs:aa (aL×DV)):Prop
 |mk {a} {kvs:aa (aL×ak)} (e:v=.ref a) (hm:(a==f5)=false) (hd:h.DictOf (gN c.prog c.w) a kvs) (hH: ¬H a) (hl:kvs.length<=9999) (hs:j7 c H h kvs xs)
inductive vC(c:Cx)(H:az->Prop)(h:cy)(v:ak)(k:av)(xs:aa (av×DV)):Prop
 |mk {a dx m} {fs:aa (av×ak)} (e:v=.ref a) (ho:h.get? a=some (iF (c.cls k) dx)) (hq:k<=2) (hH: ¬H a) (hx: ¬H dx) (hm:j6 h dx m fs.length)
   (hf: ∀f≤5,m (br<|aO f)=fs.lookup f) (hs:j7 c H h fs xs)
def ZL(c:Cx)(H:az->Prop)(h:cy)(v:ak)(d:DV):Prop:=
 match d with
 |.f=>v=.none
 |.j b=>v=.bool b
 |.a i=> ∃t,v=.int i t
 |.d l=> ∃t,v=.str (br l) t/\l.length<=9999
 |.g xs=>pj c H h v xs
 |.c xs=>d4 c H h v xs
 |.h xs=>rY c H h v xs
 |.o xs=>Jt c H h v xs
 |.n k xs=>vC c H h v k xs
 |.m=> ∃a,v=.ref a/\c.row=some a
theorem dm.pk(D:dm c H h v d):ZL c H h v d:=by
 cases D with
 |none=>exact rfl
 |bool b=>exact rfl
 |int i t=>exact⟨t,rfl⟩
 |str l t e=>exact⟨t,rfl,e⟩
 |tuple ho hc hd hx hH hl hn hs=>exact .mk rfl ho hc hd hx hH hl ⟨hn,hs⟩
 |list ho hH hl hn hs=>exact .mk rfl ho hH hl ⟨hn,hs⟩
 |Bf hm hd hH hl hn hk hs=>exact .mk rfl hm hd hH hl ⟨hn,λi p q e1 e2=>⟨hk i p q e1 e2,hs i p q e1 e2⟩⟩
 |Bg hm hd hH hl hn hk hs=>exact .mk rfl hm hd hH hl ⟨hn,λi p q e1 e2=>⟨hk i p q e1 e2,hs i p q e1 e2⟩⟩
 |Oe ho hq hH hx hm hf hn hk hs=>exact .mk rfl ho hq hH hx hm hf ⟨hn,λi p q e1 e2=>⟨hk i p q e1 e2,hs i p q e1 e2⟩⟩
 |row hr=>exact⟨_,rfl,hr⟩
theorem d4.nB(x:d4 c H h v xs):dm c H h v (.c xs):=by
 obtain⟨mV,ho,hH,hl,hs⟩:=x
 refine aK mV ?_
 exact .list ho hH hl hs.cn hs.cx
theorem DV.Cz{i}(e:x.cZ=some i):x=.a i:=by
 cases x with
 |a=>cases e;rfl
 |_=>exact nn e
theorem DV.Ju{i}(e:x.fH=some i):x=.d i:=by
 cases x with
 |d=>cases e;rfl
 |_=>exact nn e
theorem DV.po{i}(e:x.bW=some i):x=.c i:=by
 cases x with
 |c=>cases e;rfl
 |_=>exact nn e
theorem DV.Bh{i}(e:x.eN=some i):x=.g i:=by
 cases x with
 |g=>cases e;rfl
 |_=>exact nn e
theorem DV.Bk{i}(e:x.dN=some i):x=.h i:=by
 cases x with
 |h=>cases e;rfl
 |_=>exact nn e
theorem DV.Bl{i}(e:x.oQ=some i):x=.o i:=by
 cases x with
 |o=>cases e;rfl
 |_=>exact nn e
theorem DV.Of{p}(e:x.qy=some p):x=.n p.1 p.2:=by
 cases x with
 |n=>cases e;rfl
 |_=>exact nn e
theorem DV.Jv{p}(e:x.Cs=some p):x=.m:=by
 cases x with
 |m=>rfl
 |_=>exact nn e
theorem dm.as(D:dm c H h v x)(e:x=y):ZL c H h v y:=e▸D.pk
theorem dm.cZ{i}(D:dm c H h v x)(e:x.cZ=some i): ∃t,v=.int i t:=D.as<|DV.Cz e
theorem dm.fH{l}(D:dm c H h v x)(e:x.fH=some l): ∃t,v=.str (br l) t/\l.length<=9999:=D.as<|DV.Ju e
theorem dm.bW(D:dm c H h v x)(e:x.bW=some xs):d4 c H h v xs:=D.as<|DV.po e
theorem dm.eN(D:dm c H h v x)(e:x.eN=some xs):pj c H h v xs:=D.as<|DV.Bh e
theorem dm.dN{es}(D:dm c H h v x)(e:x.dN=some es):rY c H h v es:=D.as<|DV.Bk e
theorem dm.oQ{es}(D:dm c H h v x)(e:x.oQ=some es):Jt c H h v es:=D.as<|DV.Bl e
theorem dm.qy{p}(D:dm c H h v x)(e:x.qy=some p):vC c H h v p.1 p.2:=D.as<|DV.Of e
theorem dm.Cs{w}(D:dm c H h v x)(e:x.Cs=some w): ∃a,v=.ref a/\c.row=some a:=D.as<|DV.Jv e
end
inductive OnS{α β γ:Type}(x:ag α)(y:ag β)(f:α->β->ag γ)(z:γ):Prop
 |mk {a b} (h1:x=some a) (h2:y=some b) (h:f a b=some z)
inductive VG{α β:Type}(x:ag α)(f:α->ag β)(z:β):Prop
 |mk {a} (h1:x=some a) (h:f a=some z)
theorem bind_some{α β:Type}{x:ag α}{f:α->ag β}{z:β}(h:x.bind f=some z):VG x f z:=by
 cases x with
 |none=>exact nn h
 |some a=>exact⟨rfl,h⟩
theorem cj{α β γ:Type}{x:ag α}{y:ag β}{f:α->β->ag γ}{z:γ}(h:on x y f=some z):OnS x y f z:=by
 obtain⟨h1,h⟩:=bind_some h
 obtain⟨h2,h⟩:=bind_some h
 exact⟨h1,h2,h⟩
theorem dC{α:Type}{x y:ag α}{z:α}(h:x.or y=some z):x=some z\/y=some z:=by
 cases x with
 |none=>exact .inr h
 |some a=>exact .inl h
theorem c9{α β:Type}{x:ag α}{f:α->β}{z:β}(h:x.map f=some z):VG x (λa=>some<|f a) z:=by
 cases x with
 |none=>exact nn h
 |some a=>exact⟨rfl,h⟩
inductive adX{α:Type}(vs:aa DV)(f:DV->ag α)(z:α):Prop
 |mk {x} (h1:vs=[x]) (h:f x=some z)
theorem pp{α:Type}{vs:aa DV}{f:DV->ag α}{z:α}(h:jx vs f=some z):adX vs f z:=by
 cases vs with
 |nil=>exact nn h
 |cons x r=>cases r with
  |nil=>exact⟨rfl,h⟩
  |cons=>exact nn h
@[elab_as_elim] theorem n9{α:Type}{c:Cx}{H:az->Prop}{h:cy}{us:aa ak}{xs:aa DV}{f:DV->ag α}{z:α}{P:aa ak->Prop}(cs:e8 c H h us xs)(e:jx xs f=some z)(k: ∀u x,dm c H h u x->f x=some z->P [u]):P us:=by
 obtain⟨e1,e⟩:=pp e
 subst e1
 obtain⟨u,rfl,cu⟩:=cs.jx
 exact k u _ cu e
theorem eh{α:Type}{b:aM}{a d:α}(h:gL b a=some d):b=true:=by
 cases b with
 |false=>exact nn h
 |true=>rfl
theorem dT{α:Type}{b:aM}{a d:α}(h:gL b a=some d):d=a:=by
 cases b with
 |false=>exact nn h
 |true=>exact(am h).symm
def bc.wp{α:Type}(x:bc α)(Q:α->Rw->Prop)(E:aa av->Rw->Prop):Prop:=
 match x with
 |.c a r=>Q a r
 |.e m r=>E m r
 |.d=>cC
section
variable{α β:Type}{x:bc α}{Q:α->Rw->Prop}{E:aa av->Rw->Prop}
inductive WpO{α:Type}(o:ag α)(r:Rw)(Q:α->Rw->Prop):Prop
 |mk {a} (h1:o=some a) (q:Q a r)
theorem bc.de{Q:β->Rw->Prop}(h:(x.bind f).wp Q E):x.wp (λa r=>(f a r).wp Q E) E:=by cases x<;>exact h
theorem bc.VH{Q:β->Rw->Prop}(h:(x.uo.bind f).wp Q E):x.wp (λa r=>(f a r).wp Q E) (λU U=>cC):=by cases x<;>exact h
theorem bc.dU(h:(bc.fG o r).wp Q E):WpO o r Q:=by
 cases o with
 |none=>exact h.elim
 |some a=>exact⟨rfl,h⟩
theorem bc.Jw{Q':α->Rw->Prop}{E':aa av->Rw->Prop}(h:x.wp Q E)(hq: ∀a r,Q a r->Q' a r)(he: ∀m r,E m r->E' m r):x.wp Q' E':=by
 cases x with
 |c a r=>exact hq a r h
 |e m r=>exact he m r h
 |d=>exact h
end
structure Kp(X:az->Prop)(fr:aa az)(h h':cy):Prop where
 cE: ∀b o,h.get? b=some o-> ∃o',h'.get? b=some o'
 pq: ∀b o,h.get? b=some o-> ¬X b->b∉fr->h'.get? b=some o
 NB: ∀b o,h.get? b=some o-> ¬X b->b∈fr-> ∃sl,h'.get? b=some {o with slots:=sl}
theorem Kp.any(k:Kp X fr h h')(e:h.get? b=some o)(hx: ¬X b): ∃sl,h'.get? b=some {o with slots:=sl}:=by
 by_cases hb:b∈fr
 ·exact k.NB b o e hx hb
 ·exact⟨o.slots,k.pq b o e hx hb⟩
theorem Kp.all(k: ∀b o,h.get? b=some o->h'.get? b=some o):Kp X fr h h':=⟨λb o e=>⟨o,k b o e⟩,λb o e U U=>k b o e,λb o e U U=>⟨o.slots,k b o e⟩⟩
theorem Kp.cm(X fr h):Kp X fr h h:=.all λU U e=>e
theorem Kp.mG{X:az->Prop}(hs:bj a h h')(ha: ∃o,h'.get? a=some o)(hx:X a):Kp X fr h h':=
 ⟨λb o e=>by
  by_cases q:b=a
  ·subst q;exact ha
  ·exact⟨o,(hs.2 b q).trans e⟩,λb o e n U=>(hs.2 b λq=>n (q▸hx)).trans e,λb o e n U=>⟨o.slots,(hs.2 b λq=>n (q▸hx)).trans e⟩⟩
theorem Kp.dp(k:Kp X fr h h')(e:h'.get? b=none):h.get? b=none:=by
 cases q:h.get? b with
 |none=>rfl
 |some o=>obtain⟨o',z⟩:=k.cE b o q;exact nomatch e.symm.trans z
theorem Kp.trans{X Y:az->Prop}(a:Kp X fr h₁ h₂)(b:Kp Y fr h₂ h₃)(hy: ∀x,Y x->X x\/h₁.get? x=none):Kp X fr h₁ h₃:=by
 have hn: ∀x o,h₁.get? x=some o-> ¬X x-> ¬Y x:=λx o e n y=>(hy x y).elim n λq=>nomatch q.symm.trans e
 refine⟨λx o e=>?_,λx o e n f=>b.pq x o (a.pq x o e n f) (hn x o e n) f,λx o e n f=>?_⟩
 ·refine bN (a.cE x o e) λo' e'=>?_
  exact b.cE x o' e'
 ·refine bN (a.NB x o e n f) λsl e1=>?_
  refine bN (b.NB x _ e1 (hn x o e n) f) λsl' e2=>?_
  exact⟨sl',e2⟩
theorem Kp.seq{X:az->Prop}(a:Kp X fr h₁ h₂)(b:Kp X fr h₂ h₃):Kp X fr h₁ h₃:=a.trans b λU=>.inl
theorem Kp.yf{X Y:az->Prop}(k:Kp X fr h h')(l: ∀b,X b->Y b):Kp Y fr h h':=⟨k.cE,λb o e n=>k.pq b o e λx=>n<|l b x,λb o e n=>k.NB b o e λx=>n<|l b x⟩
theorem Kp.g9{X H:az->Prop}(k:Kp X fr h h')(hx: ∀b,X b->H b)(hf: ∀b∈fr,H b):mF H h h':=λb o e n=>k.pq b o e (λx=>n<|hx b x) λf=>n<|hf b f
theorem bL(h:cy):h.get? h.objs.size=none:=by
 cases q:h.get? h.objs.size with
 |none=>rfl
 |some o=>exact absurd (d5 q) (pY _)
def Xe(c:Cx)(b:az):Prop:=c.row=some b\/b=c.wE
def Jx(c:Cx)(h:cy):Prop:= ∃ps,h.get? c.wE=some {cls:=.none,data:=.fields ps}/\Np ps.toList/\
 ∀pos cv,mO pos ps.toList=some cv->h.CodeRec cv c.nP
structure Wd(c:Cx)(r:Rw)(s:af):Prop where
 same: ∃h tk,s={c.s0 with heap:=h,toks:=tk}
 cV: ∀b o,c.cV.get? b=some o->s.heap.get? b=some o
 row: ∀a,c.row=some a->c.cV.get? a=none/\r.length<=9999/\ ∃n vs,s.heap.get? a=some (eZ vs n)/\e8 c (λU=>cC) s.heap vs (r.reverse.map .a)
 wE:Jx c s.heap
theorem yg{c:Cx}{h h':cy}{vs:aa ak}{is:aa aL}{H H':az->Prop}(x:e8 c H h vs (is.map .a)):e8 c H' h' vs (is.map .a):=⟨x.cn,λi v d e1 e2=>by
 obtain⟨j,_,rfl⟩:=bb.mp<|bG e2
 obtain⟨t,rfl⟩:=(x.cx i v _ e1 e2).pk
 exact .int j t⟩
def eJ(o:Obj):Prop:= ∃vs q t,o.data=.fields vs/\vs[1]?=some (.str q t)
theorem sM(hd:o.data=.fields vs)(h: ∀q t,vs[1]?≠some (.str q t)): ¬eJ o:=λz=>by
 refine A9 z λus q t h9=>cK h9 λe e1=>?_
 cases hd.symm.trans e
 exact h q t e1
theorem mr(h: ∀vs,o.data≠.fields vs): ¬eJ o:=λz=>by
 refine A9 z λvs U U h9=>cK h9 λe U=>?_
 exact h vs e
theorem ut(h:o.data=.dict es ep): ¬eJ o:=mr λvs e=>by rw[h]at e;cases e
theorem yh(h:o.data=.seq xs n): ¬eJ o:=mr λvs e=>by rw[h]at e;cases e
theorem Jx.keep(x:Jx c h)(k: ∀b o,h.get? b=some o->(b=c.wE\/eJ o)->h'.get? b=some o):Jx c h':=by
 refine bN x λps h9=>n7 h9 λe t f=>?_
 refine⟨ps,k _ _ e<|.inl rfl,t,λpos cv q=>?_⟩
 refine Y5 (f pos cv q) λb o vs t h9=>n7 h9 λr eb hd=>?_
 exact⟨b,o,vs,t,r,k _ _ eb<|.inr ⟨_,_,_,hd⟩,hd⟩
theorem Wd.Lv{c r s}(W:Wd c r s){h'}{tk}(k: ∀b o,s.heap.get? b=some o->(c.cV.get? b=some o\/Xe c b\/eJ o)->h'.get? b=some o):Wd c r {s with heap:=h',toks:=tk}:=by
 refine⟨?_,λb o e=>k b o (W.cV b o e)<|.inl e,λa ha=>?_,W.wE.keep λb o e z=>k b o e<|.inr<|z.imp .inr id⟩
 ·refine jK W.same λh t e=>?_
  exact⟨h',tk,by rw[e]⟩
 ·obtain⟨h1,h2,n,vs,e,x⟩:=W.row a ha
  exact⟨h1,h2,n,vs,k a _ e<|.inr<|.inl<|.inl ha,yg x⟩
theorem Wd.all(W:Wd c r s)(k: ∀b o,s.heap.get? b=some o->h'.get? b=some o):Wd c r {s with heap:=h',toks:=tk}:=W.Lv λb o e U=>k b o e
theorem Wd.mG(W:Wd c r s)(sb:bj a s.heap h')(ho:s.heap.get? a=some o)(hc: ¬eJ o)(hb:c.cV.get? a=none)(hx: ¬Xe c a):Wd c r {s with heap:=h',toks:=tk}:=
 W.Lv λb ob e z=>(sb.2 b λq=>by
  subst q
  rcases z with z|z|z
  ·exact nomatch hb.symm.trans z
  ·exact hx z
  ·exact hc (am (ho.symm.trans e)▸z)).trans e
theorem Wd.gb(W:Wd c r s)(h:s.heap.get? a=none):c.cV.get? a=none:=by
 cases q:c.cV.get? a with
 |none=>rfl
 |some o=>exact nomatch h.symm.trans (W.cV _ _ q)
theorem Wd.uu(W:Wd c r s)(h:s.heap.get? a=none): ¬Xe c a:=λx=>x.elim (λe=>by
  obtain⟨_,_,_,_,q,_⟩:=W.row a e;exact nomatch h.symm.trans q) λe=>by
  obtain⟨_,q,_⟩:=W.wE;subst e;exact nomatch h.symm.trans q
structure Gr(s s':af):Prop where
 same: ∃h tk,s'={s with heap:=h,toks:=tk}
 all: ∀b o,s.heap.get? b=some o->s'.heap.get? b=some o
theorem Gr.cm(s):Gr s s:=⟨⟨s.heap,s.toks,rfl⟩,λU U e=>e⟩
theorem Gr.nE(s:af)(tk:av):Gr s {s with toks:=tk}:=⟨⟨s.heap,tk,rfl⟩,λU U e=>e⟩
theorem Gr.push(s:af)(o:Obj)(tk:av):Gr s {s with heap:=s.heap.push o,toks:=tk}:=⟨⟨_,tk,rfl⟩,λU U e=>aA _ e⟩
theorem Gr.Lw(s:af)(k: ∀b o,s.heap.get? b=some o->h'.get? b=some o):Gr s {s with heap:=h',toks:=tk}:=⟨⟨h',tk,rfl⟩,k⟩
theorem Gr.seq(a:Gr s s1)(b:Gr s1 s2):Gr s s2:=by
 obtain⟨⟨h,t,rfl⟩,k⟩:=a
 obtain⟨⟨h',t',rfl⟩,k'⟩:=b
 exact .Lw s λb o e=>k' b o<|k b o e
theorem Gr.dp(g:Gr s s')(e:s'.heap.get? b=none):s.heap.get? b=none:=by
 cases q:s.heap.get? b with
 |none=>rfl
 |some o=>exact nomatch e.symm.trans (g.all b o q)
theorem Wd.gr(W:Wd c r s)(g:Gr s s'):Wd c r s':=by
 obtain⟨⟨h,t,rfl⟩,k⟩:=g
 exact W.all k
noncomputable def jU(du:aa tx):aa Addr:=du.filterMap<|λx=>x.frame
structure Fx where
 c:Cx
 A:eX
 lv:av
 du:aa tx
 au:tx
 Λ:aa (ag b9)
noncomputable abbrev Fx.M(F:Fx):Model:=model F.c.prog F.c.w
theorem iH{h h':cy}{l:aa tx}(k: ∀L∈jU l,∀o,h.get? L=some o->(∀vs,o.data≠.fields vs)-> ∃o',h'.get? L=some o'/\ ∀vs,o'.data≠.fields vs)(x:h.FunFrames {} l):h'.FunFrames {} l:=by
 induction l with
 |nil=>trivial
 |cons e r ih=>
  refine aU λG9 k9=>?_
  refine n7 x λhk ZM hr=>?_
  obtain⟨L,o,hf,hn,ho,hd⟩:=ZM
  refine k9 ?_
  have hm:jU (e::r)=L::jU r:=by unfold jU;rw[mS,hf]
  replace k:=hm▸k
  refine bN (k L (.head _) o ho hd) λo' h9=>cK h9 λe' d'=>?_
  exact⟨hk,⟨L,o',hf,hn,e',d'⟩,ih (λL' m=>k L'<|.tail _ m) hr⟩
theorem jL{h cV:cy}{du:aa tx}(x:h.FunFrames cV du){b:az}(hb:b∈jU du): ∃o,h.get? b=some o/\ ∀vs,o.data≠.fields vs:=(x.mem hb).2
structure VJ(F:Fx)(H:az->Prop)(s:af):Prop where
 frames:F.A.frames=some F.du
 cE:s.heap.FunFrames {} F.du
 apart: ∀b∈jU F.du,H b/\F.c.cV.get? b=none/\ ¬Xe F.c b
 depth:F.A.depth+4*F.lv<=900
 units:F.A.units+40*F.lv<=9000
 handled:F.A.handled=none
theorem VJ.kp{F H s s'}{X:az->Prop}(C:VJ F H s)(k:Kp X (jU F.du) s.heap s'.heap)(hX: ∀b∈jU F.du,¬X b):VJ F H s':=
 {C with cE:=iH (λL m o e d=>by obtain⟨sl,e'⟩:=k.NB L o e (hX L m) m;exact⟨_,e',d⟩) C.cE}
def yi(au:tx)(b:az):Prop:=b=au.locals\/ ∃p∈au.cells,p.2=b
structure iI(au:tx)(Λ:aa (ag b9))(vs:aa (ag ak))(h:cy):Prop where
 kind:au.scope.kind=.function
 globals:au.globals=cf
 builtins:au.builtins=hY
 cn:vs.length=Λ.length
 ns: ∃m,h.Ns au.locals m/\ ∀(i:av) x v,Λ[i]?=some (some x)->vs[i]?=some (some v)->au.kindOf x=some .local->m x=some v
 cell: ∀(i:av) x v,Λ[i]?=some (some x)->vs[i]?=some (some v)->(au.kindOf x=some .cell\/au.kindOf x=some .free)-> ∃ca,au.cells.lookup x=some ca/\h.IsCell ca (some v)
 cE: ∀x,au.kindOf x=some .cell-> ∃ca v,au.cells.lookup x=some ca/\h.IsCell ca v
 apart:au.cells.Pairwise λx y=>x.2≠y.2
 inj: ∀(i j:av) x,Λ[i]?=some (some x)->Λ[j]?=some (some x)->i=j
 SJ: ∀p∈au.cells,∃o,h.get? p.2=some o
def Og(h h':cy)(a:az):Prop:= ∀o,h.get? a=some o-> ∃sl,h'.get? a=some {o with slots:=sl}
theorem Ns.slots(x:h.Ns a m)(k:Og h h' a):h'.Ns a m:=by
 obtain⟨o,es,ep,e,r⟩:=x
 obtain⟨sl,e'⟩:=k o e
 exact⟨_,es,ep,e',r⟩
theorem IsCell.slots(x:h.IsCell a v)(k:Og h h' a):h'.IsCell a v:=by
 obtain⟨o,e,hd⟩:=x
 obtain⟨sl,e'⟩:=k o e
 exact⟨_,e',hd⟩
theorem yi.cell(e:au.cells.lookup x=some ca):yi au ca:=.inr ⟨(x,ca),cJ e,rfl⟩
theorem iI.keep(V:iI au Λ vs h)(k: ∀b,yi au b->Og h h' b):iI au Λ vs h':=by
 refine bN V.ns λm h9=>cK h9 λhn hm=>?_
 refine{V with ns:=⟨m,Ns.slots hn<|k _<|.inl rfl,hm⟩,cell:=λi x v h1 h2 h3=>?_,cE:=λx h1=>?_,SJ:=λp hp=>?_}
 ·refine bN (V.cell i x v h1 h2 h3) λca h9=>cK h9 λe ce=>?_
  exact⟨ca,e,IsCell.slots ce<|k _<|.cell e⟩
 ·refine jK (V.cE x h1) λca v h9=>cK h9 λe ce=>?_
  exact⟨ca,v,e,IsCell.slots ce<|k _<|.cell e⟩
 ·refine bN (V.SJ p hp) λo e=>?_
  refine bN (k _ (.inr ⟨p,hp,rfl⟩) o e) λsl e'=>?_
  exact⟨_,e'⟩
structure Pt where
 H:az->Prop
 vs:aa (ag ak)
 δ:Dl
structure Gd(F:Fx)(P:Pt)(r:Rw)(s:af):Prop where
 wd:Wd F.c r s
 er:VJ F P.H s
 ev:iI F.au F.Λ P.vs s.heap
 ic: ∀b,yi F.au b->P.H b/\F.c.cV.get? b=none/\ ¬Xe F.c b
 hx: ∀b,Xe F.c b->P.H b
 iu: ∀b,P.H b-> ∃o,s.heap.get? b=some o
 nB: ∀(i:av) d,fM P.δ i=some d-> ∃v,P.vs[i]?=some (some v)/\dm F.c P.H s.heap v d
structure gc(F:Fx)(r:Rw)(s s':af):Prop where
 wd:Wd F.c r s'
 kp:Kp (Xe F.c) (jU F.du) s.heap s'.heap
 same: ∃h tk,s'={s with heap:=h,toks:=tk}
section
variable{F:Fx}{P:Pt}{r r1 r2:Rw}{s s1 s2:af}
theorem gc.cm(W:Wd F.c r s):gc F r s s:=⟨W,.cm ..,⟨s.heap,s.toks,rfl⟩⟩
theorem df(a: ∃h tk,s1={s with heap:=h,toks:=tk})(b: ∃h tk,s2={s1 with heap:=h,toks:=tk}): ∃h tk,s2={s with heap:=h,toks:=tk}:=by
 obtain⟨h,t,rfl⟩:=a
 obtain⟨h',t',rfl⟩:=b
 exact⟨h',t',rfl⟩
theorem gc.seq(a:gc F r1 s s1)(b:gc F r2 s1 s2):gc F r2 s s2:=⟨b.wd,a.kp.seq b.kp,df a.same b.same⟩
theorem gc.gr(W:Wd F.c r s)(g:Gr s s1):gc F r s s1:=⟨W.gr g,.all g.all,g.same⟩
theorem gc.push(W:Wd F.c r s)(o:Obj)(tk:av):gc F r s {s with heap:=s.heap.push o,toks:=tk}:=.gr W<|.push ..
theorem gc.nE(W:Wd F.c r s)(tk:av):gc F r s {s with toks:=tk}:=.gr W<|.nE ..
theorem Gd.g9(G:Gd F P r s)(T:gc F r1 s s1):mF P.H s.heap s1.heap:=T.kp.g9 G.hx λb m=>(G.er.apart b m).1
theorem Gd.kG(G:Gd F P r s)(T:gc F r1 s s1):Gd F P r1 s1:=
 ⟨T.wd,G.er.kp T.kp λb m=>(G.er.apart b m).2.2,G.ev.keep λb l o e=>T.kp.any e (G.ic b l).2.2,G.ic,G.hx,λb hb=>by
  refine bN (G.iu b hb) λo e=>?_
  exact T.kp.cE b o e,λi d e=>by
  refine bN (G.nB i d e) λv h9=>cK h9 λq D=>?_
  exact⟨v,q,D.g9 (G.g9 T)⟩⟩
theorem Gd.WX(G:Gd F P r s):F.A.units+20<cLine:=aI (fF (ao (c0 ..) G.er.units) 20) (by decide)
end
inductive vD(h lo:cy)(x dx:az):ag (ag az)->ak->Prop
 |l9:vD h lo x dx none .none
 |cx {fl T oT ts} (h1:lo.get? T=none) (h2:T≠x) (h3:T≠dx) (h4:h.get? T=some oT) (h5:oT.data=.fields ts) (h6:ts[3]?=some (fl.elim .none λf=>dZ f)) (h7: ∀q t,ts[1]?≠some (.str q t)):vD h lo x dx (some fl) (.ref T)
structure Bm(c:Cx)(h lo:cy)(x:az)(m:aa av)(st:ag (ag az))(dx:az)(vs:pZ ak)(mm:b9->ag ak)(t:ak):Prop where
 VK:lo.get? x=none
 obj:h.get? x=some {cls:=.ref<|c.cls 9,dict:=some dx,data:=.fields vs}
 nF:j6 h dx mm 1
 Oh:lo.get? dx=none
 ne:dx≠x
 msg: ∃tv,mm (br [109,101,115,115,97,103,101])=some (.str (br m) tv)
 Lx:vs[1]?=some t
 tb:vD h lo x dx st t
def yj(F:Fx)(st:ag (ag az)):Prop:= ∀L,st=some (some L)->L∈jU F.du.head?.toList
inductive PX(F:Fx)(s:af)(E:aa av->Rw->Prop)(e:ak)(s':af):Prop
 |mk {x m r st dx vs mm t} (he:e=.ref x) (X:Bm F.c s'.heap s.heap x m st dx vs mm t) (T:gc F r s s') (q:E m r) (hd:yj F st)
inductive PV{α β:Type}(F:Fx)(D:af->af->β->α->Prop)(s:af)(Q:α->Rw->Prop)(b:β)(s':af):Prop
 |mk {d r} (D:D s s' b d) (T:gc F r s s') (q:Q d r)
abbrev VD(c:Cx)(H:az->Prop)(_ s':af):ak->DV->Prop:=dm c H s'.heap
abbrev VDs(c:Cx)(H:az->Prop)(_ s':af):aa ak->aa DV->Prop:=e8 c H s'.heap
abbrev VB(_:Cx)(_:az->Prop)(_ _:af)(b d:aM):Prop:=b=d
def S{α β:Type}(F:Fx)(D:Cx->(az->Prop)->af->af->β->α->Prop)(t:xt β)(x:Dl->Rw->bc α):Prop:=
 ∀P r s Q E,Gd F P r s->(x P.δ r).wp Q E->wpAny F.M F.A t (PV F (D F.c P.H) s Q) (PX F s E) s
section
variable{α β γ:Type}{F:Fx}{P:Pt}{r r1 r2:Rw}{s s1 s2:af}{E:aa av->Rw->Prop}
theorem vD.le{h lo lo'}{x dx st t}(m:vD h lo x dx st t)(l: ∀b,lo.get? b=none->lo'.get? b=none):vD h lo' x dx st t:=by
 cases m with
 |l9=>exact .l9
 |cx h1 h2 h3 h4 h5 h6 h7=>exact .cx (l _ h1) h2 h3 h4 h5 h6 h7
theorem Bm.le{c h lo lo' x m st dx vs mm t}(X:Bm c h lo x m st dx vs mm t)(l: ∀b,lo.get? b=none->lo'.get? b=none):Bm c h lo' x m st dx vs mm t:=
 {X with VK:=l _ X.VK,Oh:=l _ X.Oh,tb:=X.tb.le l}
theorem PX.hF{e s2}(T:gc F r1 s s1)(p:PX F s1 E e s2):PX F s E e s2:=by
 obtain⟨he,X,T',q,hd⟩:=p
 exact⟨he,X.le λU=>T.kp.dp,T.seq T',q,hd⟩
theorem PX.no{p:Prop}(h:PX F s (λU U=>cC) e s2):p:=by
 obtain⟨_,_,_,q,_⟩:=h
 exact q.elim
theorem hZ{Q:α->af->Prop}(T:gc F r1 s s1)(h:wpAny F.M F.A t Q (PX F s1 E) s1):wpAny F.M F.A t Q (PX F s E) s1:=aq h (λU U q=>q) λU U p=>p.hF T
theorem S.Aw(h:S F D t x){K:α->Rw->Prop}{R:β->af->Prop}(G:Gd F P r s)(q:(x P.δ r).wp K E)
  (k: ∀b d s1 r1,D F.c P.H s s1 b d->Gd F P r1 s1->gc F r1 s s1->K d r1->R b s1):wpAny F.M F.A t R (PX F s E) s:=
 aq (h P r s _ E G q) (λb s1 p=>by obtain⟨D,T,q⟩:=p;exact k _ _ _ _ D (G.kG T) T q) λU U q=>q
theorem S.then(h:S F D t x){Q:γ->Rw->Prop}{R:β->af->Prop}(G:Gd F P r s)(q:((x P.δ r).bind f).wp Q E)
  (k: ∀b d s1 r1,D F.c P.H s s1 b d->Gd F P r1 s1->gc F r1 s s1->(f d r1).wp Q E->R b s1):wpAny F.M F.A t R (PX F s E) s:=h.Aw G (bc.de q) k
inductive Oi(c:Cx)(H:az->Prop)(s:af)(d:DV)(v:ak)(s':af):Prop
 |mk (D:dm c H s'.heap v d) (g:Gr s s')
abbrev Op(c:Cx)(A:eX)(H:az->Prop)(t:xt ak)(s:af)(d:DV):Prop:=wpAny (model c.prog c.w) A t (Oi c H s d) (λU U=>cC) s
theorem CA{Q:DV->Rw->Prop}(T:gc F r1 s s1)(h:Op F.c F.A P.H t s1 d)(q:Q d r1):wpAny F.M F.A t (PV F (VD F.c P.H) s Q) (PX F s E) s1:=
 aq h (λv s2 p=>by obtain⟨D,g⟩:=p;exact⟨D,T.seq<|.gr T.wd g,q⟩) λU U z=>z.elim
theorem PV.nB{H:az->Prop}{Q:DV->Rw->Prop}(D:dm F.c H s1.heap v d)(T:gc F r1 s s1)(q:Q d r1):PV F (VD F.c H) s Q v s1:=⟨D,T,q⟩
theorem S.Oj(ht:t=pure v)(D: ∀c H h,dm c H h v d):S F VD t (λU r=>.c d r):=λP r s Q E G q=>by
 rw[ht];exact aD ⟨D _ _ _,.cm G.wd,q⟩
theorem S.mkInt(i:aL):S F VD (PySem.mkInt i) (λU r=>.c (.a i) r):=λP r s Q E G q=>SY ⟨.int _ _,.nE G.wd _,q⟩
theorem S.mkText(l:aa av):S F VD (PySem.mkText<|br l) (λU r=>bc.fG (gL (decide<|l.length<=9999)<|.d l) r):=λP r s Q E G q=>by
 obtain⟨e,q⟩:=bc.dU q
 exact s9 ⟨dT e▸.str _ _ (ah<|eh e),.nE G.wd _,q⟩
theorem qc{i:av}{x:b9}(gv:F.Λ[i]?=some (some x))(hk:F.au.kindOf x=some .local\/F.au.kindOf x=some .cell\/F.au.kindOf x=some .free)(hc:(x==("__classdict__":b9))=false)(G:Gd F P r s){v}(hv:P.vs[i]?=some (some v)){Q:ak->af->Prop}{RE}(q:Q v s):
  wpAny F.M F.A (loadName F.au x) Q RE s:=by
 rcases hk with hk|hk|hk
 ·refine bN G.ev.ns λm h9=>cK h9 λhn hm=>?_
  exact nH G.ev.kind hk hn (hm i x v gv hv hk) q
 ·refine bN (G.ev.cell i x v gv hv<|.inl hk) λca h9=>cK h9 λe ce=>?_
  exact wpAny_loadName_cell G.ev.kind hk e ce q
 ·refine bN (G.ev.cell i x v gv hv<|.inr hk) λca h9=>cK h9 λe ce=>?_
  exact wpAny_loadName_free G.ev.kind hk e ce q hc
theorem S.slot{i:av}{x:b9}{pos:jt}(gv:F.Λ[i]?=some (some x))(hk:F.au.kindOf x=some .local\/F.au.kindOf x=some .cell\/F.au.kindOf x=some .free)
  (hd:(x==("__debug__":b9))=false) (hc:(x==("__classdict__":b9))=false):S F VD (eval (.Name x pos) F.au) (λδ r=>bc.fG (fM δ i) r):=λP r s Q E G q=>by
 refine aU λG9 k9=>?_
 obtain⟨e,q⟩:=bc.dU q
 obtain⟨v,hv,D⟩:=G.nB i _ e
 refine k9 ?_
 exact kR (qc gv hk hc G hv ⟨D,.cm G.wd,q⟩) hd
end
theorem tL(a b:aa av):br a++br b=br (a++b):=by
 show adI _ _=_
 unfold adI br
 simp
theorem dP(a:aa av):(br a).length=a.length:=by unfold br Str.length;simp
theorem og:br a=br b↔a=b:=by unfold br;simp
theorem To(a b:aa av):(br a==br b)=decide (a=b):=by
 by_cases h:a=b
 ·subst h;simp
 ·rw[al h];simpa [og]using h
theorem dD(h:n<=99999):n<=sizeLine:=ao h (by decide)
theorem log2_lt(h:n<2^64):n.log2<64:=by
 by_cases h0:n=0
 ·subst h0;decide
 ·exact(Nat.log2_lt h0).mpr h
theorem vE(h:gH i=true):small i:=by
 unfold gH at h
 rw[be]at h
 exact⟨ah h.1,ah h.2⟩
theorem vF(h:small i):i.natAbs.log2<64:=log2_lt<|aI (ya (k:=18446744073709551615) (show((-18446744073709551616:aL)+1)<=i from h.1)<|tD h.2) (by decide)
theorem Hh(h:small i):qN i<=64:=by
 have:=vF h
 unfold qN
 split
 ·exact bD _
 ·exact this
theorem Ly(h:small i):IntMulOk i j:=by
 unfold IntMulOk
 intro q
 simp only[be,g0]at q
 exact absurd (aI q.1.1<|aI (Hh h) (by decide))<|pY _
theorem Bn(h:small j):xa i j=false:=by
 have:=vF h
 unfold xa
 have:(if(j==0)=true then 0 else j.natAbs.log2/30+1)<=3:=by
  split
  ·exact bD _
  ·exact Ld<|eE this (by decide)
 simp only[Bool.and_eq_false_iff,sC]
 left
 exact q7.mpr<|ao (by assumption) (by decide)
theorem yk{α:Type}(k:av)(a acc:aa α):A8 (λx1 x2=>x1++x2) acc.toArray (bo k a.toArray)=(acc++(bo k a).flatten).toArray:=by
 induction k generalizing acc with
 |zero=>simp
 |succ k ih=>rw[ud,List.foldl_cons,List.append_toArray,ih];simp[ud]
theorem adZ(h:(a&&b&&c)=true):a=true/\b=true/\c=true:=by
 rw[be,be]at h
 exact⟨h.1.1,h.1.2,h.2⟩
section
variable{c:Cx}{A:eX}{H:az->Prop}{s:af}
theorem Oi.Bo:Oi c H s (.a i) (.int i t) {s with toks:=s.toks+1}:=⟨.int _ _,.nE ..⟩
theorem Oi.newList(D:e8 c H s.heap vs xs)(hl:vs.length<=9999)(hH: ∀b,H b-> ∃o,s.heap.get? b=some o):Oi c H s (.c xs) (.ref s.heap.objs.size) {s with heap:=s.heap.push<|eZ vs 0,toks:=tk}:=
 ⟨d4.nB (.mk rfl (aR _ rfl) (λq=>by obtain⟨o,e⟩:=hH _ q;exact nomatch (bL _).symm.trans e) hl<|D.g9<|.all λU U e=>aA _ e),.push ..⟩
theorem Tp(b:(decide (i=10)&&decide (0<=j)&&decide (j<=40))=true)(e:z=.a (10^j.toNat)):Op c A H (sE .Pow (.int i t)<|.int j u) s z:=by
 refine n7 (adZ b) λb1 b2 b3=>?_
 refine aK (ah b1) ?_
 refine acv (ah b2) ?_<|e▸.Bo
 have:=ah b3
 clear b b1 b2 b3
 refine aK (show qN 10=4 from by decide) ?_
 lia
theorem Tq(hv:v=.int i t)(hw:w=.int j u)(e:ZE op i j=some z):Op c A H (sE op v w) s z:=by
 subst hv hw
 cases op with
 |Add=>exact acO (am e▸.Bo)
 |Sub=>exact acs (am e▸.Bo)
 |Mult=>exact acx (dT e▸.Bo) (Ly (vE (dI.mp (eh e)).1))
 |FloorDiv=>exact acI (ah (dI.mp (eh e)).1) (dT e▸.Bo) (.inl (Bn (vE (dI.mp (eh e)).2)))
 |Mod=>exact acy (ah (eh e)) (dT e▸.Bo)
 |Pow=>exact Tp (eh e) (dT e)
 |_=>exact nn e
theorem EJ(h1:a.length=1)(h0:0<=n):Txt.mul (br a) n=br (bo n.toNat a).flatten:=by
 unfold Txt.mul
 split
 ·cases(show n=0 by lia);rfl
 ·split
  ·rename_i h3
   rw[dP,h1]at h3
   cases(show n=1 by simpa using h3)
   simp
  ·exact aE Str.mk<|(yk n.toNat a []).trans (by simp)
theorem Ax{Q:ak->af->Prop}
  (hl:s.heap.get? l=some (eZ [v] k)) (hlo:0<=x) (hhi:x<=99)
  (h:Q (.ref s.heap.objs.size) {s with heap:=s.heap.push (eZ (bo x.toNat v) 0)}):
  wpAny (model c.prog c.w) A (sE .Mult (.ref l)<|.int x u) Q RE s:=by
 have e:(A8 (λx1 x2=>x1++x2) #[] (bo (if [v].toArray.isEmpty=true then 0 else x.toNat) [v].toArray))=(bo x.toNat v).toArray:=by
  have z: ∀n,(bo n [v]).flatten=bo n v:=λn=>by
   induction n with
   |zero=>rfl
   |succ n ih=>rw[ud,List.flatten_cons,ih];rfl
  exact(yk x.toNat [v] []).trans (by rw[z];rfl)
 refine wpAny_binaryOp_repeat_ref (T:="list") (U:="int") (by decide) ⟨_,hl,rfl⟩ (λs'=>typeIs_int s' x u) noFill_list_mul F.fills_int_mul YZ repeat_list F.slot_int_index.lookup
  (mP YZ (typeIs_int s x u) F.entry_int_rmul (F.args_int_rmul_2 _ _) (int___rmul___int_list x u l [v].toArray k)
   ⟨hl,rfl,⟨_,hl,rfl⟩,mP F.slot_list_mul ⟨_,hl,rfl⟩ F.entry_list_mul (F.args_list_mul_2 _ _)
    (agT l [v].toArray k x u (by simp[aco];clear e h hl;exact⟨by lia,bF (by assumption) (by decide)⟩) (by clear e h hl;simp;exact ay (by assumption) (by decide)) (by
     intro q
     have:=ah q
     clear e h hl
     simp[GR]at this
     lia))
    ⟨hl,?_⟩⟩)
 refine aK e ?_
 exact h
theorem A2.Hi{α β:Type}{R:α->β->Prop}{v d}(a:R v d)(n:av):A2 R (bo n v) (bo n d):=.replicate a n
theorem Ol(hv:v=.str (br a) t)(hw:w=.str (br b) u)(hz:z=.d (a++b))(h:(a++b).length<=9999):Op c A H (sE .Add v w) s z:=by
 subst hv hw hz
 refine acN (λt' tk=>?_) ?_
 ·rw[tL]
  exact⟨.str _ _ h,.nE ..⟩
 ·rw[dP,dP,←aP]
  exact dD<|ao h (by decide)
theorem Om(hv:v=.str (br a) t)(hw:w=.int n u)(hz:z=.d (bo n.toNat a).flatten)(b1:a.length=1/\0<=n/\n<=99):Op c A H (sE .Mult v w) s z:=by
 subst hv hw hz
 refine SB.mul (mulOk_of 1 99 (cX<|(dP a).trans b1.1) b1.2.2 (ay (by decide) b1.2.1) (by decide) (by decide)) λt' k=>?_
 refine aK (EJ b1.1 b1.2.1) ?_
 refine⟨.str _ _ ?_,.nE ..⟩
 simp[b1]
 exact ay (mD.right<|mD.right (by assumption)) (by decide)
theorem On{l n xs q z w}{u}(hH: ∀b,H b-> ∃o,s.heap.get? b=some o)(I:d4 c H s.heap l xs)(hx:xs=[q])(hw:w=.int n u)(b:0<=n/\n<=99)(e:z=.c (bo n.toNat q)):Op c A H (sE .Mult l w) s z:=by
 subst e hx hw
 obtain⟨rfl,ho,hn,hl,hs⟩:=I
 obtain⟨w,rfl,cw⟩:=hs.jx
 refine Ax ho b.1 b.2<|Oi.newList (.Hi cw _) ?_ hH
 rw[iD]
 lia
theorem yl{p q:Prop}[sF p][sF q](h:(decide p&&decide q)=true):p/\q:=(dI.mp h).imp ah ah
theorem ad0{p q r:Prop}[sF p][sF q][sF r](h:(decide p&&decide q&&decide r)=true):p/\q/\r:=and_assoc.mp<|(dI.mp h).imp yl ah
theorem Tr(hH: ∀b,H b-> ∃o,s.heap.get? b=some o)(cv:dm c H s.heap v x)(cu:dm c H s.heap u y)(e:ZF op x y=some z):Op c A H (sE op v u) s z:=by
 cases op with
 |Add=>
  refine aU λG9 k9=>?_
  obtain⟨e1,e2,e⟩:=cj e
  refine bN (cv.fH e1) λt h9=>cK h9 λhv U=>?_
  refine bN (cu.fH e2) λt' h9=>cK h9 λhu U=>?_
  refine k9 ?_
  exact Ol hv hu (dT e)<|ah<|eh e
 |Mult=>
  rcases dC e with e|e
  ·obtain⟨e1,e2,e⟩:=cj e
   refine aU λG9 k9=>?_
   refine bN (cv.fH e1) λt h9=>cK h9 λhv U=>?_
   refine bN (cu.cZ e2) λt' hu=>?_
   refine k9 ?_
   exact Om hv hu (dT e)<|ad0<|eh e
  ·obtain⟨e1,e2,e⟩:=cj e
   refine aU λG9 k9=>?_
   obtain⟨hx,e⟩:=pp e
   refine bN (cu.cZ e2) λt' hu=>?_
   refine k9 ?_
   exact On hH (cv.bW e1) hx hu (yl<|eh e)<|dT e
 |_=>exact nn e
theorem Ts(hH: ∀b,H b-> ∃o,s.heap.get? b=some o)(cv:dm c H s.heap v x)(cu:dm c H s.heap u y)(e:yc op x y=some z):Op c A H (sE op v u) s z:=by
 rcases dC e with e|e
 ·obtain⟨e1,e2,e⟩:=cj e
  refine bN (cv.cZ e1) λt hv=>?_
  refine bN (cu.cZ e2) λt' hu=>?_
  exact Tq hv hu e
 ·exact Tr hH cv cu e
def EK(h:cy)(v:ak)(x:Sc):Prop:=
 match x with
 |.none=>v=.none
 |.bool b=>v=.bool b
 |.int i=> ∃t,v=.int i t
 |.str l=> ∃t,v=.str (br l) t
 |.wB=> ∃a items,v=.ref a/\h.IsTuple a items
theorem EL(e:some a=some y)(D:EK h v a):EK h v y:=am e▸D
theorem pj.is(D:pj c H s.heap v xs): ∃a items,v=.ref a/\s.heap.IsTuple a items:=by
 obtain⟨e,h1,h2,h3,_⟩:=D
 exact⟨_,_,e,_,h1,h2,_,h3⟩
theorem dm.sc(D:dm c H s.heap v x)(e:x.ZC=some y):EK s.heap v y:=by
 have D:=D.pk
 cases x with
 |f=>exact EL e D
 |j=>exact EL e D
 |a=>exact EL e D
 |d=>obtain⟨t,h,_⟩:=D;exact EL e ⟨t,h⟩
 |g=>exact EL e (pj.is D)
 |_=>exact nn e
theorem Lz{Q:aM->af->Prop}(D:EK s.heap v y)(e:N5 y=some b)(q:Q b s):wpAny (model c.prog c.w) A (WI v) Q RE s:=by
 cases y with
 |none=>cases D;cases e;exact acq q
 |bool=>cases D;cases e;exact YP q
 |int i=>
  obtain⟨t,ym⟩:=D
  refine aK ym ?_
  cases e
  refine acr ?_
  rw[show(i !=0)=decide (i≠0) by by_cases h:i=0<;>simp[h]];exact q
 |_=>exact nn e
theorem uv{Q:aM->af->Prop}(cv:dm c H s.heap v x)(e:j3 x=some b)(q:Q b s):wpAny (model c.prog c.w) A (WI v) Q RE s:=by
 obtain⟨h,e⟩:=bind_some e
 exact Lz (cv.sc h) e q
end
structure uw(A:eX)(s:af)(v u:ak)(b:aM):Prop where
 eq:x5 A s v u b
 rc:RcAt A s v u b
 ne:RcNeAt A s v u (!b)
noncomputable def mW(v u:ak):Bool:=
 match v with
 |.none=>(match u with|.none=>true|_=>false)
 |.bool a=>(match u with|.bool b=>a==b|_=>false)
 |.int i _=>(match u with|.int j _=>i==j|_=>false)
 |.str x _=>(match u with|.str y _=>x==y|_=>false)
 |_=>false
structure Oo(A:eX)(s:af)(v u:ak)(b:aM):Prop extends uw A s v u b where
 val:mW v u=b
section
variable{A:eX}{s:af}{v u:ak}
theorem Oo.of(e:some a=some b)(x:Oo A s v u a):Oo A s v u b:=am e▸x
theorem Jy(hu:A.units<cLine)(D:EK s.heap v a)(D':EK s.heap u b)(e:WU a b=some r):Oo A s v u r:=by
 cases a with
 |none=>
  cases D
  cases b with
  |none=>cases D';exact .of e ⟨⟨adJ _,RcAt.none_none,RcNeAt.none_none⟩,rfl⟩
  |bool=>cases D';exact .of e ⟨⟨EqAt.none_bool _,RcAt.none_bool _,RcNeAt.none_bool _⟩,rfl⟩
  |int=>obtain⟨_,rfl⟩:=D';exact .of e ⟨⟨EqAt.none_int _ _,RcAt.none_int _ _,RcNeAt.none_int _ _⟩,rfl⟩
  |str=>obtain⟨_,rfl⟩:=D';exact .of e ⟨⟨EqAt.none_str _ _,RcAt.none_str _ _,RcNeAt.none_str _ _⟩,rfl⟩
  |wB=>obtain⟨_,_,rfl,ht⟩:=D';exact .of e ⟨⟨EqAt.none_tuple ht hu,RcAt.none_tuple ht hu,RcNeAt.none_tuple ht hu⟩,rfl⟩
 |bool=>
  cases D
  cases b with
  |none=>cases D';exact .of e ⟨⟨EqAt.bool_none _,RcAt.bool_none _,RcNeAt.bool_none _⟩,rfl⟩
  |bool=>cases D';exact .of e ⟨⟨EqAt.bool_bool _ _,RcAt.bool_bool _ _,RcNeAt.bool_bool _ _⟩,rfl⟩
  |str=>obtain⟨_,rfl⟩:=D';exact .of e ⟨⟨EqAt.bool_str _ _ _,RcAt.bool_str _ _ _,RcNeAt.bool_str _ _ _⟩,rfl⟩
  |_=>exact nn e
 |int i=>
  obtain⟨_,rfl⟩:=D
  cases b with
  |none=>cases D';exact .of e ⟨⟨EqAt.int_none _ _,RcAt.int_none _ _,RcNeAt.int_none _ _⟩,rfl⟩
  |bool=>exact nn e
  |int j=>
   obtain⟨_,rfl⟩:=D'
   have z:(i==j)=decide (i=j):=by by_cases h:i=j<;>simp[h]
   exact .of ((aE some z).trans e) ⟨⟨EqAt.int_int _ _ _ _,RcAt.int_int _ _ _ _,RcNeAt.int_int _ _ _ _⟩,rfl⟩
  |str=>obtain⟨_,rfl⟩:=D';exact .of e ⟨⟨EqAt.int_str _ _ _ _,RcAt.int_str _ _ _ _,RcNeAt.int_str _ _ _ _⟩,rfl⟩
  |wB=>obtain⟨_,_,rfl,ht⟩:=D';exact .of e ⟨⟨EqAt.int_tuple _ _ ht hu,RcAt.int_tuple _ _ ht hu,RcNeAt.int_tuple _ _ ht hu⟩,rfl⟩
 |str=>
  obtain⟨_,rfl⟩:=D
  cases b with
  |none=>cases D';exact .of e ⟨⟨EqAt.str_none _ _,RcAt.str_none _ _,RcNeAt.str_none _ _⟩,rfl⟩
  |bool=>cases D';exact .of e ⟨⟨EqAt.str_bool _ _ _,RcAt.str_bool _ _ _,RcNeAt.str_bool _ _ _⟩,rfl⟩
  |int=>obtain⟨_,rfl⟩:=D';exact .of e ⟨⟨EqAt.str_int _ _ _ _,RcAt.str_int _ _ _ _,RcNeAt.str_int _ _ _ _⟩,rfl⟩
  |str=>obtain⟨_,rfl⟩:=D';exact .of ((aE some<|To _ _).trans e) ⟨⟨YW _ _ _ _,RcAt.str_str _ _ _ _,RcNeAt.str_str _ _ _ _⟩,rfl⟩
  |wB=>obtain⟨_,_,rfl,ht⟩:=D';exact .of e ⟨⟨EqAt.str_tuple _ _ ht hu,RcAt.str_tuple _ _ ht hu,RcNeAt.str_tuple _ _ ht hu⟩,rfl⟩
 |wB=>
  obtain⟨_,_,rfl,ht⟩:=D
  cases b with
  |none=>cases D';exact .of e ⟨⟨EqAt.tuple_none ht hu,RcAt.tuple_none ht hu,RcNeAt.tuple_none ht hu⟩,rfl⟩
  |int=>obtain⟨_,rfl⟩:=D';exact .of e ⟨⟨EqAt.tuple_int _ _ ht hu,RcAt.tuple_int _ _ ht hu,RcNeAt.tuple_int _ _ ht hu⟩,rfl⟩
  |str=>obtain⟨_,rfl⟩:=D';exact .of e ⟨⟨EqAt.tuple_str _ _ ht hu,RcAt.tuple_str _ _ ht hu,RcNeAt.tuple_str _ _ ht hu⟩,rfl⟩
  |_=>exact nn e
theorem Bp{a b r}(D:EK s.heap v a)(D':EK s.heap v b)(e:WU a b=some r):r=true:=by
 refine aK ((Jy (A:={frames:=none,depth:=0,guards:=none,units:=0,handled:=none}) (by decide) D D' e).val).symm ?_
 cases a with
 |none=>cases D;rfl
 |bool=>cases D;exact bH _
 |int=>obtain⟨_,rfl⟩:=D;exact bH _
 |str=>obtain⟨_,rfl⟩:=D;exact bH _
 |wB=>
  obtain⟨_,_,rfl,_⟩:=D
  cases b with
  |none=>exact nomatch D'
  |int=>obtain⟨_,q⟩:=D';exact nomatch q
  |str=>obtain⟨_,q⟩:=D';exact nomatch q
  |_=>exact nn e
theorem CB(hu:A.units<cLine)(cv:dm c H s.heap v x)(cu:dm c H s.heap u y)(e:cP x y=some r):Oo A s v u r:=by
 obtain⟨e1,e2,e⟩:=cj e
 exact Jy hu (cv.sc e1) (cu.sc e2) e
theorem vG{bs:aa aM}{n:av}(h:bs.length=n):((bp n).all λj=>bs.getD j true)=bs.all id:=by
 subst h
 apply Th.mpr
 simp only[aF,bE,id]
 constructor
 ·intro h b hb
  obtain⟨j,hj,rfl⟩:=l7.mp hb
  have:=h j hj
  rwa [A7,aC hj]at this
 ·intro h j hj
  rw[A7]
  refine aK (aC hj) ?_
  exact h _<|hG hj
theorem Hj(h:RcAt A s (.ref a) (.ref b) k)(hs:a=b->k=true):x5 A s (.ref a) (.ref b) k:=by
 by_cases e:a=b
 ·rw[hs e,e];exact adJ _
 ·exact .of_refs e h
theorem Jz{vs us:aa ak}{f:av->aM}(el: ∀(j:av) v u,vs[j]?=some v->us[j]?=some u->x5 A s v u (f j))(j:av)(h1:j<vs.toArray.size)(h2:j<us.toArray.size):x5 A s vs.toArray[j] us.toArray[j] (f j):=
 el j _ _ (aC h1) (aC h2)
theorem EM{a b:az}{vs us:aa ak}{bs:aa aM}(l1:s.heap.IsList a vs.toArray)(l2:s.heap.IsList b us.toArray)(h1:vs.length=us.length)(h2:bs.length=vs.length)(hu:A.units<cLine)
  (el: ∀(j:av) v u,vs[j]?=some v->us[j]?=some u->x5 A.in1 s v u (bs.getD j true)) (hs:a=b->bs.all id=true):uw A s (.ref a) (.ref b) (bs.all id):=by
 have e:=vG h2
 have r1:=RcAt.lists l1 l2 h1 hu<|Jz el
 have r2:=RcNeAt.lists l1 l2 h1 hu<|Jz el
 rw[bT,e]at r1 r2
 exact⟨Hj r1 hs,r1,r2⟩
theorem EN{a b:az}{vs us:aa ak}(l1:s.heap.IsList a vs.toArray)(l2:s.heap.IsList b us.toArray)(h:vs.length≠us.length)(hu:A.units<cLine)(hs:a≠b):uw A s (.ref a) (.ref b) false:=by
 have z:(vs.toArray.size !=us.toArray.size)=true:=bne_iff_ne.mpr h
 have e1:=RcAt.lists_lengths l1 l2 z hu
 exact⟨.of_refs hs e1,e1,RcNeAt.lists_lengths l1 l2 z hu⟩
theorem LB{a b:az}{vs us:aa ak}{bs:aa aM}(l1:s.heap.IsTuple a vs.toArray)(l2:s.heap.IsTuple b us.toArray)(h1:vs.length=us.length)(h2:bs.length=vs.length)(hu:A.units<cLine)
  (el: ∀(j:av) v u,vs[j]?=some v->us[j]?=some u->x5 A.in1 s v u (bs.getD j true)) (hs:a=b->bs.all id=true):uw A s (.ref a) (.ref b) (bs.all id):=by
 have e:=vG h2
 have r1:=RcAt.tuples l1 l2 hu<|Jz el
 have r2:=RcNeAt.tuples l1 l2 hu<|Jz el
 rw[bT,bT,←h1,Nat.min_self,e,bH,gR]at r1 r2
 exact⟨Hj r1 hs,r1,r2⟩
end
structure VM(f:DV->DV->ag aM)(xs ys:aa DV)(bs:aa aM):Prop where
 cn:xs.length=ys.length
 Tu:bs.length=xs.length
 cx: ∀(j:av) x y,xs[j]?=some x->ys[j]?=some y->f x y=some (bs.getD j true)
theorem yn(h:At f xs ys=some bs):VM f xs ys bs:=by
 induction xs generalizing ys bs with
 |nil=>cases ys with
  |nil=>cases h;exact⟨rfl,rfl,λU U U e=>nomatch e⟩
  |cons=>exact nn h
 |cons x xs ih=>cases ys with
  |nil=>exact nn h
  |cons y ys=>
   obtain⟨h1,h2,h⟩:=cj h
   cases h
   have i:=ih h2
   exact⟨aE (λx=>x+1) i.cn,aE (λx=>x+1) i.Tu,λj=>by
    cases j with
    |zero=>exact λU U e1 e2=>am e1▸am e2▸h1
    |succ j=>exact λU U e1 e2=>i.cx j _ _ e1 e2⟩
theorem CC{vs ws:aa ak}{n m:av}(h:afR vs.toArray n=afR ws.toArray m):vs=ws:=by
 injection h with h _
 injection h
theorem WY{bs:aa aM}(h: ∀j:av,j<bs.length->bs.getD j true=true):bs.all id=true:=(vG rfl).symm.trans<|aF.mpr λj m=>h j<|bE.mp m
section
variable{c:Cx}{H:az->Prop}{s:af}{r:Rw}
theorem Bq{f:DV->DV->ag aM}{vs:aa ak}{xs ys:aa DV}{bs}(h:At f xs ys=some bs)(ih: ∀v x y b,dm c H s.heap v x->dm c H s.heap v y->f x y=some b->b=true)(c1:e8 c H s.heap vs xs)(c2:e8 c H s.heap vs ys):bs.all id=true:=by
 have d:=yn h
 refine WY λj hj=>?_
 have hx:=aC (l:=xs) (show j<_ from eG hj d.Tu)
 refine bN (c1.vg hx) λv h9=>cK h9 λhv D=>?_
 refine bN (c2.Lu hv) λy h9=>cK h9 λhy D'=>?_
 exact ih v _ _ _ D D'<|d.cx j _ _ hx hy
theorem Oq(n:av){v x y b}(hr: ∀a,c.row=some a->H a)(cv:dm c H s.heap v x)(cu:dm c H s.heap v y)(e:Hb r n x y=some b):b=true:=by
 induction n generalizing v x y b with
 |zero=>
  obtain⟨e1,e2,e⟩:=cj e
  exact Bp (cv.sc e1) (cu.sc e2) e
 |succ n ih=>
  rcases dC e with e|e
  ·obtain⟨e1,e2,e⟩:=cj e
   obtain⟨h1,ho,_,_,c1⟩:=cv.bW e1
   obtain⟨h2,hp,_,_,c2⟩:=cu.bW e2
   cases h1.symm.trans h2
   cases CC (aE Obj.data<|am<|ho.symm.trans hp)
   rw[aJ<|c1.cn.symm.trans c2.cn]at e
   obtain⟨e,z⟩:=c9 e
   exact am z▸Bq e (λv x y b=>ih) c1 c2
  rcases dC e with e|e
  ·obtain⟨e1,e2,e⟩:=cj e
   obtain⟨h1,ho,_,d1,_,_,_,c1⟩:=cv.eN e1
   obtain⟨h2,hp,_,d2,_,_,_,c2⟩:=cu.eN e2
   cases h1.symm.trans h2
   cases ho.symm.trans hp
   cases CC (d1.symm.trans d2)
   obtain⟨e,z⟩:=c9 e
   exact am z▸Bq e (λv x y b=>ih) c1 c2
  rcases dC e with e|e
  ·obtain⟨e1,e2,e⟩:=cj e
   exact dT e
  rcases dC e with e|e
  ·obtain⟨e1,e2,e⟩:=cj e
   refine bN (cv.Cs e1) λa h9=>cK h9 λh1 hc=>?_
   obtain⟨h2,hp,hn,_⟩:=cu.bW e2
   cases h1.symm.trans h2
   exact absurd (hr _ hc) hn
  ·obtain⟨e1,e2,e⟩:=cj e
   exact Bp (cv.sc e1) (cu.sc e2) e
end
inductive tM(h:cy)(a:az)(kvs:aa (aa av×ak)):Prop
 |mk (o:Obj) (es:pZ Nr) (ep:av) (hs:(a==f5)=false) (ho:h.get? a=some o) (hc:o.cls=.type "dict") (hd:o.data=.dict es ep) (hn:es.size=kvs.length)
   (cx: ∀(i:av) p,kvs[i]?=some p-> ∃e t,es[i]?=some e/\e.key=.str (br p.1) t/\e.val=p.2) (nd:(kvs.map<|λx=>x.1).Nodup)
theorem JA(hs:(a==f5)=false)(d:h.DictAt (eQ prog w) a (kvs.map λp=>(br p.1,p.2)) ep):tM h a kvs:=by
 refine jK d λo es h9=>an6 h9 λho hx hd U hp nd=>?_
 have hn:es.size=kvs.length:=by have:=hp.length;simpa using this
 refine⟨o,es,ep,hs,ho,hx.1,hd,hn,λi p e=>?_,?_⟩
 ·have hi:i<es.size:=hn▸(aY.mp e).1
  have he:=oP hi
  obtain⟨h1,h2⟩:=hp.get? (i:=i) (e:=es[i]) (k:=br p.1) (v:=p.2) (by rw[GJ];exact he) (by rw[bl,e];rfl)
  obtain⟨t,h1⟩:=Jf h1
  exact⟨_,t,he,h1,h2⟩
 ·rw[dj]at nd
  exact gK.mpr<|(gK.mp nd).imp λh e=>h<|aE br e
theorem Hk{es:pZ Nr}{kvs:aa (aa av×ak)}{i p}(hn:es.size=kvs.length)(cx: ∀(i:av) p,kvs[i]?=some p-> ∃e t,es[i]?=some e/\e.key=.str (br p.1) t/\e.val=p.2)(nd:(kvs.map<|λx=>x.1).Nodup)
  (e:kvs[i]?=some p):es.findIdx? (λx=>x.key.isStr<|br p.1)=some i:=by
 refine jK (cx i p e) λen t h9=>n7 h9 λh1 h2 h3=>?_
 refine bN (dG.mp h1) λhi h1=>?_
 rw[ul]
 refine⟨hi,by rw[h1,h2];exact bH _,λj hj z=>?_⟩
 have hj':j<kvs.length:=by rw[←hn];lia
 refine jK (cx j _<|aC hj') λen' t' h9=>n7 h9 λg1 g2 g3=>?_
 refine bN (dG.mp g1) λU g1=>?_
 rw[g1,g2]at z
 refine bN (aY.mp e) λhi' e=>?_
 have:=pb.mp nd j i (by rw[aw];exact hj') (by rw[aw];exact hi') hj
 rw[xz,xz,e]at this
 exact this<|og.mp<|eq_of_beq z
section
variable{prog:pg}{w:World}{A:eX}{E:ak->af->Prop}{s:af}
theorem CD{Q:ag av->af->Prop}(hob:s.heap.get? b=some ob)(hdb:ob.data=.dict es ep)
  (hall:(es.all λe=>afN e.key)=true) (hi:es.findIdx? (λx=>x.key.isStr k)=some i) (he:es[i]?=some e) (hk:e.key=.str k t') (q:Q (some i) s):
  wpAny (model prog w) A (dictFind b (.str k t) h) Q E s:=by
 unfold dictFind
 refine dA<|ac<|lO hob hdb ?_
 dsimp only
 refine aK (aJ hall) ?_
 unfold foundByValue
 refine aK hi ?_
 dsimp only
 refine aK he ?_
 refine ac<|t9 hob hdb ?_
 refine ac ?_
 refine aK hk ?_
 refine YW k t' k t prog w _ _ ?_
 refine ac<|t9 hob hdb ?_
 rw[aN (by simp),bH]
 exact ac<|GN<|aD q
theorem yo{nm:String}{a b:az}{ka kb:aa (aa av×ak)}{Q:aM->af->Prop}(D:tM s.heap a ka)(D':tM s.heap b kb)(hl:ka.length=kb.length)
  (H: ∀(i:av) p q,ka[i]?=some p->kb[i]?=some q->p.1=q.1/\x5 A s p.2 q.2 true) (q:Q true s):wpAny (model prog w) A (nV nm a b) Q E s:=by
 refine aU λG9 k9=>?_
 obtain⟨oa,es,epa,ha,hoa,_,hda,na,cx,_⟩:=D
 obtain⟨ob,es',epb,hb,hob,_,hdb,nb,bt_,nd⟩:=D'
 refine k9 ?_
 have hall:(es'.all λe=>afN e.key)=true:=by
  rw[Array.all_eq_true]
  intro i h
  refine aU λG9 k9=>?_
  obtain⟨e,t,h1,h2,_⟩:=bt_ i _<|aC<|nb▸h
  obtain⟨_,h1⟩:=dG.mp h1
  refine k9 ?_
  rw[h1,h2];rfl
 unfold nV acp
 rw[aN (show ¬(a==f5)=true by rw[ha];exact im),aN (show ¬(b==f5)=true by rw[hb];exact im)]
 refine ac<|aD<|ac<|aD ?_
 refine ac<|lO hoa hda ?_
 dsimp only
 refine ac<|lO hob hdb ?_
 rw[aN (by rw[(na.trans<|hl.trans nb.symm)];simp)]
 refine ac<|t9 hoa hda ?_
 refine ac ?_
 rw[nS]
 refine wpAny_forIn_list _ (λrest r s'=>s'=s/\r=(none,())/\ ∀x∈rest,x<es.size) _ ?_ ?_ _ _ ⟨rfl,rfl,λx hx=>by
  replace hx:x∈Jj 0 es.size:=by simpa only[ny,Nat.sub_zero,NU,Nat.div_one]using hx
  have:=(List.mem_range'_1.mp hx).2
  lia⟩
 ·rintro x rest r s' ⟨rfl,rfl,hr⟩
  have hlt:x<ka.length:=na▸hr x (.head _)
  have g1:=aC hlt
  have g2:=aC<|hl▸hlt
  refine aU λG9 k9=>?_
  obtain⟨e,t,e1,e2,e3⟩:=cx x _ g1
  obtain⟨f,t',f1,f2,f3⟩:=bt_ x _ g2
  obtain⟨hk,he⟩:=H x _ _ g1 g2
  refine k9 ?_
  refine ac<|lO hoa hda ?_
  refine aK e1 ?_
  refine(?_:wpAny _ _ (jr [e.key,e.val] _>>=_) _ _ _)
  refine aK e2<|aK hk ?_
  refine ac<|dA<|ac<|CD hob hdb hall (Hk nb bt_ nd g2) f1 f2 ?_
  dsimp only
  refine ac<|lO hob hdb ?_
  refine aK f1 ?_
  refine dA ?_
  refine aK e3<|aK f3 ?_
  refine he prog w _ _ ?_
  refine(?_:wpAny _ _ (if(!true)=true then _ else _) _ _ _)
  refine aK (aN (by decide)) ?_
  refine ac<|t9 hoa hda ?_
  refine aK (aN (by simp)) ?_
  exact aD ⟨rfl,rfl,λy hy=>hr y<|.tail _ hy⟩
 ·rintro r s' ⟨rfl,rfl,_⟩
  exact aD q
theorem yq{Q:nA->af->Prop}(D:tM s.heap a ka)(D':tM s.heap b kb)(hl:ka.length=kb.length)
  (H: ∀(i:av) p q,ka[i]?=some p->kb[i]?=some q->p.1=q.1/\x5 A s p.2 q.2 true) (q:Q (.done<|.ret<|.bool<|true==want) s):
  wpAny (model prog w) A (do
   let(j8,other) ←vm nm ⟨[.ref a,.ref b],[]⟩
   if !(←GU other (.type "dict")) then rule s!"dict.{nm}.not-a-dict";return ←ret .notImplemented
   ret (.bool ((←nV s!"dict.{nm}" (←Al j8) (←Al other))==want))) Q E s:=by
 have D1:=D
 have D2:=D'
 obtain⟨_,_,_,_,ho,hc,_⟩:=D1
 obtain⟨_,_,_,_,ho',hc',_⟩:=D2
 unfold vm
 refine ac ?_
 refine ac<|wpAny_notOrdered_dict ⟨_,ho,hc⟩ ?_
 refine(?_:wpAny _ _ (pure (gE a,gE b)) _ _ s)
 refine aD ?_
 refine ac<|Zo (T:="dict") ⟨_,ho',hc'⟩ PySem.F.sub_dict_dict ?_
 refine aK (aN (by decide)) ?_
 refine ac<|aD<|ac<|aD ?_
 exact ac<|yo D D' hl H<|aD q
theorem Ot(D:tM s.heap a ka)(D':tM s.heap b kb)(hl:ka.length=kb.length)(hu:A.units<cLine)
  (H: ∀(i:av) p q,ka[i]?=some p->kb[i]?=some q->p.1=q.1/\x5 A.in1 s p.2 q.2 true):uw A s (.ref a) (.ref b) true:=by
 have D1:=D
 have D2:=D'
 refine aU λG9 k9=>?_
 obtain⟨_,_,_,_,ho,hc,_⟩:=D1
 obtain⟨_,_,_,_,ho',hc',_⟩:=D2
 refine k9 ?_
 have ta:s.TypeIs (.ref a) "dict":=⟨_,ho,hc⟩
 have tb:s.TypeIs (.ref b) "dict":=⟨_,ho',hc'⟩
 have r1:RcAt A s (.ref a) (.ref b) true:=λprog w E Q q=>by
  refine GD (op:=.Eq) ta tb Ey (mM Ey ta PySem.F.entry_dict_eq ?_<|PySem.F.args_dict_eq_2 _ _) hu
  exact yq (nm:="__eq__") (want:=true) D D' hl H ⟨_,rfl,⟨nofun,q⟩⟩
 have r2:RcNeAt A s (.ref a) (.ref b) (!true):=λprog w E Q q=>by
  refine GD (op:=.NotEq) ta tb Ew (mM Ew ta PySem.F.entry_dict_ne ?_<|PySem.F.args_dict_ne_2 _ _) hu
  exact yq (nm:="__ne__") (want:=false) D D' hl H ⟨_,rfl,⟨nofun,q⟩⟩
 exact⟨Hj r1 λU=>rfl,r1,r2⟩
end
theorem Ou(h:EE f xs ys=true):A2 (λp q=>p.1=q.1/\f p.2 q.2=some true) xs ys:=by
 induction xs generalizing ys with
 |nil=>cases ys with
  |nil=>exact .nil
  |cons=>cases h
 |cons p xs ih=>cases ys with
  |nil=>cases h
  |cons q ys=>
   have h:(decide (p.1=q.1)&&f p.2 q.2==some true&&EE f xs ys)=true:=h
   rw[be,be]at h
   exact .cons ⟨ah h.1.1,eq_of_beq h.1.2⟩<|ih h.2
def Tv(c:Cx)(H:az->Prop)(r:Rw)(s:af):Prop:= ∀a,c.row=some a->H a/\ ∃vs:aa ak,s.heap.IsList a vs.toArray/\vs.length=r.length
theorem IsList.of{h:cy}{a n vs}(e:h.get? a=some (eZ vs n)):h.IsList a vs.toArray:=⟨_,e,rfl,n,rfl⟩
section
variable{c:Cx}{H:az->Prop}{s:af}{r:Rw}
theorem WZ{A:eX}{a:az}{v:ak}{xs:aa DV}{b:aM}(hr:Tv c H r s)(ha:c.row=some a)(L:d4 c H s.heap v xs)(hu:A.units<cLine)(e:gL xs.isEmpty r.isEmpty=some b):uw A s (.ref a) v b:=by
 obtain⟨h1,vs,l1,l2⟩:=hr a ha
 obtain⟨rfl,ho,hH,_,hs⟩:=L
 cases xs with
 |cons=>exact nn e
 |nil=>
  cases hs.Hg
  cases r with
  |nil=>
   cases bY l2
   exact am e▸EM (bs:=[]) l1 (IsList.of ho) rfl rfl hu (λU U U e=>nomatch e) λU=>rfl
  |cons=>exact am e▸EN l1 (IsList.of ho) (λz=>nomatch l2.symm.trans z) hu λz=>hH<|z▸h1
theorem JB(d:VM f xs ys bs)(ih: ∀v u x y b,dm c H s.heap v x->dm c H s.heap u y->f x y=some b->uw A s v u b)(c1:e8 c H s.heap vs xs)(c2:e8 c H s.heap us ys)
  (j:av) (v u:ak) (e1:vs[j]?=some v) (e2:us[j]?=some u):x5 A s v u (bs.getD j true):=by
 refine aU λG9 k9=>?_
 refine bN (c1.Lu e1) λx h9=>cK h9 λhx D=>?_
 refine bN (c2.Lu e2) λy h9=>cK h9 λhy D'=>?_
 refine k9 ?_
 exact(ih v u x y _ D D'<|d.cx j _ _ hx hy).eq
theorem Ov{A:eX}{f:DV->DV->ag aM}{v u xs ys b}(hu:A.units<cLine)(L1:d4 c H s.heap v xs)(L2:d4 c H s.heap u ys)(e:(if xs.length=ys.length then(At f xs ys).map (λx=>x.all id) else some false)=some b)
  (ih: ∀v u x y b,dm c H s.heap v x->dm c H s.heap u y->f x y=some b->uw A.in1 s v u b) (j8:v=u->b=true):uw A s v u b:=by
 obtain⟨rfl,ho,_,_,c1⟩:=L1
 obtain⟨rfl,hp,_,_,c2⟩:=L2
 by_cases hl:xs.length=ys.length
 ·replace e:=((aJ hl)).symm.trans e
  obtain⟨e1,z⟩:=c9 e
  cases z
  have d:=yn e1
  exact EM (IsList.of ho) (IsList.of hp) (c1.cn.trans<|hl.trans c2.cn.symm) (d.Tu.trans c1.cn.symm) hu (JB d ih c1 c2) λz=>j8<|aE _ z
 ·replace e:=((aN hl)).symm.trans e
  cases e
  have hl': ¬_=_:=λz=>hl<|c1.cn.symm.trans<|Eq.trans z c2.cn
  refine EN (IsList.of ho) (IsList.of hp) hl' hu λz=>hl' ?_
  subst z
  exact aK (CC<|aE Obj.data<|am<|ho.symm.trans hp) rfl
theorem LC(hu:A.units<cLine)(L1:pj c H s.heap v xs)(L2:pj c H s.heap u ys)(e:(At f xs ys).map (λx=>x.all id)=some b)
  (ih: ∀v u x y b,dm c H s.heap v x->dm c H s.heap u y->f x y=some b->uw A.in1 s v u b) (j8:v=u->b=true):uw A s v u b:=by
 obtain⟨rfl,h1,h2,h3,_,_,_,c1⟩:=L1
 obtain⟨rfl,k1,k2,k3,_,_,_,c2⟩:=L2
 obtain⟨e1,z⟩:=c9 e
 cases z
 have d:=yn e1
 exact LB ⟨_,h1,h2,_,h3⟩ ⟨_,k1,k2,_,k3⟩ (c1.cn.trans<|d.cn.trans c2.cn.symm) (d.Tu.trans c1.cn.symm) hu (JB d ih c1 c2) λz=>j8<|aE _ z
theorem Ow(hu:A.units<cLine)(L1:rY c H s.heap v xs)(L2:rY c H s.heap u ys)(e:gL (EE f xs ys) true=some b)
  (ih: ∀v u x y b,dm c H s.heap v x->dm c H s.heap u y->f x y=some b->uw A.in1 s v u b):uw A s v u b:=by
 obtain⟨rfl,hm,hd,_,_,c1⟩:=L1
 obtain⟨rfl,km,kd,_,_,c2⟩:=L2
 have d:=Ou<|eh e
 refine aK (dT e) ?_
 refine Ot (JA hm hd) (JA km kd) (c1.cn.trans<|d.cn.trans c2.cn.symm) hu λi p q e1 e2=>?_
 refine aU λG9 k9=>?_
 refine bN (c1.Lu e1) λx h9=>n7 h9 λhx k1 D=>?_
 refine bN (c2.Lu e2) λy h9=>n7 h9 λhy k2 D'=>?_
 refine k9 ?_
 have z:=d.cx i _ _ hx hy
 exact⟨k1.trans<|z.1.trans k2.symm,(ih _ _ _ _ _ D D' z.2).eq⟩
theorem Ox(n:av){A}{v u x y b}(hr:Tv c H r s)(hu:A.units+n<cLine)(cv:dm c H s.heap v x)(cu:dm c H s.heap u y)(e:Hb r n x y=some b):uw A s v u b:=by
 induction n generalizing A v u x y b with
 |zero=>exact(CB hu cv cu e).touw
 |succ n ih=>
  have ZN:A.units<cLine:=aI (c0 _ _) hu
  have ih:=λv u x y b=>@ih A.in1 v u x y b (by show A.units+1+n<cLine;rw[jT,nN 1 n];exact hu)
  have j8:v=u->b=true:=λz=>Oq (n+1) (λa z=>(hr a z).1) cv (z▸cu) e
  rcases dC e with e|e
  ·obtain⟨e1,e2,e⟩:=cj e
   exact Ov ZN (cv.bW e1) (cu.bW e2) e ih j8
  rcases dC e with e|e
  ·obtain⟨e1,e2,e⟩:=cj e
   exact LC ZN (cv.eN e1) (cu.eN e2) e ih j8
  rcases dC e with e|e
  ·obtain⟨e1,e2,e⟩:=cj e
   exact Ow ZN (cv.dN e1) (cu.dN e2) e ih
  rcases dC e with e|e
  ·obtain⟨e1,e2,e⟩:=cj e
   refine bN (cv.Cs e1) λa h9=>cK h9 λh1 hc=>?_
   refine aK h1 ?_
   exact WZ hr hc (cu.bW e2) ZN e
  ·exact(CB ZN cv cu e).touw
end
noncomputable def Oy(K:uh)(C:az):Bool:=
 S5 K C ""&&Nl K C&&(ji K (.ref C) "__setattr__"==some (some<|.builtin "object.__setattr__"))&&plainOver K C&&makesIn K C&&
 (bp 5).all λf=>(ji K (.ref C) (br<|aO f)==some none)&&(YU K C (br<|aO f)==some none)
noncomputable def Hl(K:uh)(C:az):Bool:=
 S5 K C "__class__"&&(ji K (.ref C) "__class__"==some (some<|.builtin "object.__class__"))&&(specialIn K (.builtin "object.__class__") "__get__"==some (some<|.builtin "getset_descriptor.__get__"))&&
 (takesIn K (.builtin "object.__class__")==some true)&&(mroIn K C (.type "object")==some true)&&kin_notT K C "str"
noncomputable def CE:aa Str:=["len","abs","max","str","chr","list","range","dict","isinstance","zip"]
structure Cx.Ok(c:Cx):Prop where
 K:c.K.In c.cV
 g:c.cV.Ns cf c.mg
 b:c.cV.Ns hY c.mb
 nolimit:c.cV.NoLimit
 nodigits: ∃mc,c.cV.Ns cStatics mc/\mc "sys.int_max_str_digits"=none
 builtins: ∀x:b9,x≠"__name__"->c.mb x=NN x
 cls: ∀k,k<=2->Oy c.K (c.cls k)=true
 ZO: ∀k,k<=2->Hl c.K (c.cls k)=true
 Em: ∀k,1<=k->k<=2->kin_not c.K (c.cls k) (c.cls 0)=true
 ZP: ∃b o,f5<b/\c.cV.get? b=some o
 bns: ∀n∈CE,nsIn c.K cf n=some none
 Tw: ∀i,i<c.Cw->nsIn c.K cf (c.iG i)=some (some<|.ref<|c.ue i)/\vh c.K (.ref<|c.ue i)=true
 VN: ∀k,k<=2->ji c.K (.ref<|c.cls k) "__init__"=some (some<|.ref<|c.ue<|1000+k)/\typeIn c.K (.ref<|c.ue<|1000+k)=some (.type "function")
 ZQ:ji c.K (.ref<|c.cls 0) (br<|aO 5)=some (some<|.ref<|c.ue 2000)/\typeIn c.K (.ref<|c.ue 2000)=some (.type "function")/\vh c.K (.ref<|c.ue 2000)=true
 cns: ∀k,k<=2->nsIn c.K cf (c.fY k)=some (some<|.ref<|c.cls k)/\vh c.K (.ref<|c.cls k)=true
theorem Wd.K{c r s}(W:Wd c r s)(O:c.Ok):c.K.In s.heap:=O.K.keeps W.cV
theorem Wd.vH(W:Wd c r s)(O:c.Ok):(s.heap.objs.size==f5)=false:=by
 refine jK O.ZP λb o h9=>cK h9 λl e=>?_
 exact cz.mpr λz=>absurd (d5<|W.cV _ _ e) (by rw[z];exact Nat.not_lt_of_lt l)
structure ZR(K:uh)(C:az):Prop where
 vg:S5 K C ""=true
 dict:Nl K C=true
 set:ji K (.ref C) "__setattr__"=some (some<|.builtin "object.__setattr__")
 ad2:plainOver K C=true
 ZS:makesIn K C=true
 fld: ∀f,f<=4->ji K (.ref C) (br<|aO f)=some none/\YU K C (br<|aO f)=some none
theorem Cx.Ok.Hm{c:Cx}(O:c.Ok){k}(h:k<=2):ZR c.K (c.cls k):=by
 have h:=O.cls k h
 unfold Oy at h
 simp only[be,aF,bE,f4]at h
 exact⟨h.1.1.1.1.1,h.1.1.1.1.2,h.1.1.1.2,h.1.1.2,h.1.2,λf hf=>h.2 f<|Sr hf⟩
section
variable{c:Cx}{A:eX}{H:az->Prop}{s:af}{r:Rw}
inductive ZT(s:af)(b:aM)(v:ak)(s':af):Prop
 |mk (tk:av) (e:v=.bool b) (es:s'={s with toks:=tk})
abbrev ZU(c:Cx)(A:eX)(t:xt ak)(s:af)(b:aM):Prop:=wpAny (model c.prog c.w) A t (ZT s b) (λU U=>cC) s
theorem ZT.here{s b}:ZT s b (.bool b) s:=⟨s.toks,rfl,rfl⟩
theorem ZT.nE{s b tk}:ZT s b (.bool b) {s with toks:=tk}:=⟨tk,rfl,rfl⟩
theorem W5{vs:aa ak}{xs:aa DV}{f:ak->aM}{e:DV->aM}(x:A2 (λv d=>f v=e d) vs xs):vs.any f=xs.any e:=by
 induction xs generalizing vs with
 |nil=>cases x.Hg;rfl
 |cons d xs ih=>
  refine jK x.un λv ws h9=>n7 h9 λCy a r=>?_
  refine aK Cy ?_
  rw[f7,f7]
  exact aK a<|aK (ih r) rfl
theorem vI(e:o=some b):b=(o==some true):=by subst e;cases b<;>rfl
theorem VQ(hu:A.units<cLine)(cu:dm c H s.heap u x)(cs:e8 c H s.heap vs xs)(h:(xs.all λy=>(cP y x).isSome)=true):
  A2 (λv y=>mW v u=(cP y x==some true)/\x5 A s v u (mW v u)) vs xs:=⟨cs.cn,λi v y e1 e2=>by
 refine bN (bJ.mp<|aF.mp h y<|bG e2) λb hb=>?_
 have k:=CB hu (cs.cx i v y e1 e2) cu hb
 exact⟨k.val.trans (vI hb),k.val▸k.eq⟩⟩
theorem EO{R:ak->DV->Prop}(x:A2 (λv y=>R v y/\x5 A s v u (mW v u)) vs xs)(v:ak)(m:v∈vs.toArray):x5 A s v u (mW v u):=by
 refine bN (x.mem (show v∈vs by simpa using m)) λd h9=>n7 h9 λU U e=>?_
 exact e
theorem Oz(hu:A.units<cLine)(cu:dm c H s.heap u x)(cs:e8 c H s.heap vs xs)(e:NA x xs=some b):(∀v∈vs.toArray,x5 A s v u<|mW v u)/\vs.toArray.any (mW · u)=b:=by
 have j:=VQ hu cu cs<|eh e
 refine⟨EO j,?_⟩
 rw[List.any_toArray]
 refine aK (dT e) ?_
 exact W5<|j.Tm λU U z=>z.1
theorem ux{K:Type}[g8 K](p:K×ak)(r:aa (K×ak))(k:K):Aj (p::r) k=if p.1=k then some p.2 else Aj r k:=by
 unfold Aj
 rw[List.find?_cons]
 by_cases h:p.1=k
 ·rw[aJ h,ab h];rfl
 ·exact aK (aN h)<|aK (al h) rfl
theorem tN(kvs:aa (aa av×ak))(l:aa av):Aj (kvs.map λp=>(br p.1,p.2)) (br l)=kvs.lookup l:=by
 induction kvs with
 |nil=>rfl
 |cons p r ih=>
  rw[dK,ux,cB,ih]
  by_cases h:p.1=l
  ·rw[aJ<|aE br h,h,bH]
  ·exact aK (aN λz=>h<|og.mp z)<|aK (cz.mpr λz=>h z.symm) rfl
theorem wF(kvs:aa (aL×ak))(l:aL):Aj kvs l=kvs.lookup l:=by
 induction kvs with
 |nil=>rfl
 |cons p r ih=>
  rw[ux,cB,ih]
  by_cases h:p.1=l
  ·rw[aJ h,h,bH]
  ·exact aK (aN h)<|aK (cz.mpr λz=>h z.symm) rfl
theorem Br{κ:Type}[BEq κ]{fs}{xs}(x:j7 c H s.heap fs xs)(k:κ):(fs.lookup k).isSome=(xs.lookup k).isSome:=by
 have l:=x.d9 k
 cases e:xs.lookup k<;>cases e':fs.lookup k<;>first|rfl|(rw[e,e']at l;exact l.elim)
theorem xF(prog:pg)(w:World)(l:aa av)(t:Tok):(eQ prog w).is (br l) (.str (br l) t)=true:=bH<|br l
theorem CF(prog:pg)(w:World)(i:aL)(t:Tok):(gN prog w).is i (.int i t)=true:=by simp[gN,GY]
theorem OA{v u x y b}(hu:A.units+20<cLine)(cv:dm c H s.heap v x)(cu:dm c H s.heap u y)(e:Ln x y=some b):ZU c A (Cf .In v u) s b/\ZU c A (Cf .NotIn v u) s (!b):=by
 have hu:A.in1.units<cLine:=by show A.units+1<cLine;exact aI (bV (by decide) _) hu
 rcases dC e with e|e
 ·obtain⟨e1,e⟩:=bind_some e
  obtain⟨oS,h1,h2,h3,_,_,_,cs⟩:=cu.eN e1
  refine aK oS ?_
  obtain⟨k1,ym⟩:=Oz hu cv cs e
  refine aK ym.symm ?_
  exact⟨in_tupleAt _ ⟨_,h1,h2,_,h3⟩ k1 .here,notIn_tupleAt _ ⟨_,h1,h2,_,h3⟩ k1 .here⟩
 rcases dC e with e|e
 ·obtain⟨e1,e⟩:=bind_some e
  obtain⟨CG,h1,_,_,cs⟩:=cu.bW e1
  refine aK CG ?_
  obtain⟨k1,yr⟩:=Oz hu cv cs e
  refine aK yr.symm ?_
  exact⟨in_listAt _ (IsList.of h1) k1 .here,notIn_listAt _ (IsList.of h1) k1 .here⟩
 rcases dC e with e|e
 ·obtain⟨e1,e2,e⟩:=cj e
  obtain⟨ZV,hm,d,_,_,hp⟩:=cu.dN e1
  refine aK ZV ?_
  obtain⟨t,OB,_⟩:=cv.fH e2
  refine aK OB ?_
  have k:(Aj _<|br _).isSome=b:=(aE _<|tN _ _).trans<|(Br hp _).trans<|am e
  exact⟨wpAny_in_of (xF _ _ _ _) hm d.dictOf.mapOf<|k▸.nE,adC (xF _ _ _ _) hm d.dictOf.mapOf<|k▸.nE⟩
 ·obtain⟨e1,e2,e⟩:=cj e
  obtain⟨ZX,hm,d,_,_,hp⟩:=cu.oQ e1
  refine aK ZX ?_
  obtain⟨t,OC⟩:=cv.cZ e2
  refine aK OC ?_
  have k:(Aj _ _).isSome=b:=(aE _<|wF _ _).trans<|(Br hp _).trans<|am e
  exact⟨wpAny_in_of (CF _ _ _ _) hm d.mapOf<|k▸.nE,adC (CF _ _ _ _) hm d.mapOf<|k▸.nE⟩
theorem pr{h v x}(cv:dm c H h v x):(v==ak.none)=cA x/\plainIs v .none=true/\S7 v=true:=by
 have D:=cv.pk
 cases x with
 |f=>cases D;exact⟨rfl,rfl,rfl⟩
 |j=>cases D;exact⟨rfl,rfl,rfl⟩
 |a=>obtain⟨_,rfl⟩:=D;exact⟨rfl,rfl,rfl⟩
 |d=>obtain⟨_,rfl,_⟩:=D;exact⟨rfl,rfl,rfl⟩
 |m=>obtain⟨_,rfl,_⟩:=D;exact⟨rfl,rfl,rfl⟩
 |_=>obtain⟨rfl,_⟩:=D;exact⟨rfl,rfl,rfl⟩
theorem JC(cv:dm c H h v x)(e:cA x=true):v=.none:=eq_of_beq<|(pr cv).1.trans e
theorem VR(cv:dm c H s.heap v x)(cu:dm c H s.heap u y)(e:gL (cA y) b=some d):u=.none/\d=b:=⟨JC cu<|eh e,dT e⟩
theorem Tx(hv:v=.int i t)(hu:u=.int j t')(e:Lp op i j=some b):ZU c A (Cf op v u) s b:=by
 subst hv hu
 cases op with
 |Lt=>exact acz (am e▸.here)
 |LtE=>exact acB (am e▸.here)
 |Gt=>exact acE (am e▸.here)
 |GtE=>exact acH (am e▸.here)
 |_=>exact nn e
theorem CH(cv:dm c H s.heap v x)(cu:dm c H s.heap u y)(e:on x.cZ y.cZ (Lp op)=some b):ZU c A (Cf op v u) s b:=by
 refine aU λG9 k9=>?_
 obtain⟨e1,e2,e⟩:=cj e
 obtain⟨_,hv⟩:=cv.cZ e1
 obtain⟨_,hu⟩:=cu.cZ e2
 refine k9 ?_
 exact Tx hv hu e
theorem JD(hr:Tv c H r s)(hu:A.units+20<cLine)(cv:dm c H s.heap v x)(cu:dm c H s.heap u y)(e:EF op x y r=some b):ZU c A (Cf op v u) s b:=by
 have hu8:A.units+8<cLine:=aI (bV (by decide) _) hu
 cases op with
 |Is=>
  refine cK (VR cv cu e) λz90 LD=>?_
  refine aK z90 ?_
  refine aK LD ?_
  refine n7 (pr cv) λk p U=>?_
  exact wpAny_is_plain p<|k▸.here
 |IsNot=>
  refine cK (VR cv cu e) λz90 LD=>?_
  refine aK z90 ?_
  refine aK LD ?_
  refine n7 (pr cv) λk p U=>?_
  exact wpAny_isNot_plain p<|k▸.here
 |Lt=>exact CH cv cu e
 |LtE=>exact CH cv cu e
 |Gt=>exact CH cv cu e
 |GtE=>exact CH cv cu e
 |Eq=>exact cmp_ofEq ((Ox 8 hr hu8 cv cu e).rc _ _ _ _ .here)
 |NotEq=>
  obtain⟨e1,e⟩:=c9 e
  exact cmp_ofNotEq<|(Ox 8 hr hu8 cv cu e1).ne _ _ _ _<|am e▸.here
 |In=>exact(OA hu cv cu e).1
 |NotIn=>
  obtain⟨e1,e⟩:=c9 e
  exact am e▸(OA hu cv cu e1).2
theorem rZ{od:Obj}{es:pZ Nr}{ep:av}{m:b9->ag ak}{x:b9}(hd:od.data=.dict es ep)(hk:YV es)(hm: ∀name,xY es name=m name):lookIn x od=some (m x):=by
 have e:=hm x
 unfold xY findBy at e
 replace e:=(Array.find?_toList).symm▸e
 unfold lookIn
 refine aK hd ?_
 dsimp only
 cases q:es.toList.find? (λe=>e.key.isStr x) with
 |some en=>rw[q]at e;rw[←e];rfl
 |none=>
  replace e:=q▸e
  refine aK e.symm ?_
  have:es.toList.any (λx=>x.refKey)=false:=by
   rw[wz]
   intro en he
   refine jK (hk en<|Array.mem_toList_iff.mp he) λn t h=>?_
   simp[G4,h]
  simp[this]
theorem Oi.here{v d}(D:dm c H s.heap v d):Oi c H s d v s:=⟨D,.cm s⟩
theorem Oi.nE{v d}(D:dm c H s.heap v d)(tk:av):Oi c H s d v {s with toks:=tk}:=⟨D,.nE ..⟩
theorem Tz{v x f z ex}(O:c.Ok)(W:Wd c r s)(cv:dm c H s.heap v x)(e:sL x f=some z):Op c A H (te v (br<|aO f) ex) s z:=by
 obtain⟨e1,e⟩:=bind_some e
 obtain⟨rfl,hx,hk,_,_,hm,fl,hp⟩:=cv.qy e1
 by_cases hf:f<=4
 ·rw[aJ hf]at e
  refine aU λG9 k9=>?_
  obtain⟨u,e,cu⟩:=hp.some e
  refine A9 hm λod es ep h9=>Y4 h9 λhd Hn W6 hm U=>?_
  refine k9 ?_
  have P:=O.Hm hk
  exact get_value (W.K O) ⟨hx,rfl,rfl,hd⟩ (Ef P.vg).1 (S8 (attr:=none) P.dict (P.fld f hf).1 rfl (v:=u) (by rw[rZ Hn W6 hm,fl f<|fN hf,e])) (pr cu).2.2<|.nE cu _
 ·rw[aN hf]at e;exact nn e
noncomputable def pt(e:aX):Bool:=e.ctorIdx !=(acl none none none default).ctorIdx
theorem iX{sl:aX}{o i:ak}(h:pt sl=true):subscripted sl false o i=operate [o,i] (getItem o i):=by
 cases sl with
 |Slice=>exact nomatch h
 |_=>rfl
theorem wG{k:aL}{n:av}(h:0<=k)(hn:k.toNat<n):seqIndex? k n=some k.toNat:=by
 unfold seqIndex?
 simp only[dS.mpr h,if_false]
 rw[aJ]
 simp only[be,g0]
 exact⟨h,(G8 h).mp hn⟩
theorem OD{k:aL}{n:av}(h:0<=k)(hn:k.toNat<n)(hl:n<=9999):k<2^63:=bd ((G8 h).mp hn)<|ay (dM.mpr hl) (by decide)
theorem W7{k:aL}{n:av}(h:0<=k)(hn:k.toNat<n)(hl:n<=9999):(decide (k< -(2^63))||decide (k>=2^63))=false:=by
 simp only[Jp,sC]
 exact⟨dS.mpr (ay (by decide) h),vu.mpr<|OD h hn hl⟩
theorem LF{v vs k t z eM slice}(hs:pt slice=true)(L:pj c H s.heap v vs)(e:(if 0<=k then vs[k.toNat]? else none)=some z):Op c A H (xw eM slice v<|.int k t) s z:=by
 obtain⟨rfl,h1,h2,h3,_,_,hl,cs⟩:=L
 by_cases h0:0<=k
 ·replace e:=((aJ h0)).symm.trans e
  refine bN (cs.vg e) λw h9=>cK h9 λe' cw=>?_
  have hlt:=(aY.mp e').1
  have ht:IsTup s.heap _ _:=⟨_,h1,h2,_,h3⟩
  exact Am ht.typeIs act.lookup (acF ht (ay (by decide) h0) (OD h0 hlt hl) (wG h0 hlt) (by simpa using e')<|.here cw)<|iX hs
 ·rw[aN h0]at e;exact nn e
theorem TA(hs:pt slice=true)(L: ∃t,v=.str (br l) t/\l.length<=9999)(e:(if 0<=k then(l[k.toNat]?).map λch=>DV.d [ch]else none)=some z):Op c A H (xw eM slice v<|.int k t) s z:=by
 obtain⟨_,mV,hl⟩:=L
 refine aK mV ?_
 by_cases h0:0<=k
 ·replace e:=((aJ h0)).symm.trans e
  obtain⟨e1,hz⟩:=c9 e
  cases hz
  have hlt:=(aY.mp e1).1
  exact Am (T:="str") rfl acu.lookup (acG (W7 h0 hlt hl) (by rw[dP,wG h0 hlt];show(br l).cps[k.toNat]?=_;simpa [br]using e1)<|Oi.nE (.str [_] _ (show 1<=9999 by decide)) _)<|iX hs
 ·rw[aN h0]at e;exact nn e
theorem OE{v vs k t z eM slice}(hs:pt slice=true)(L:d4 c H s.heap v vs)(e:N6 vs k=some z):Op c A H (xw eM slice v<|.int k t) s z:=by
 obtain⟨rfl,ho,_,hl,cs⟩:=L
 have l1:=IsList.of ho
 unfold N6 at e
 by_cases h0:0<=k
 ·replace e:=((aJ h0)).symm.trans e
  obtain⟨w,e',cw⟩:=cs.vg e
  exact Am l1.typeIs Ea.lookup (wpAny_getItem_list l1 h0 (OD h0 (aY.mp e').1 hl) (by simpa using e')<|.here cw)<|iX hs
 ·replace e:=((aN h0)).symm.trans e
  by_cases h1:0<=k+vs.length
  ·replace e:=((aJ h1)).symm.trans e
   obtain⟨w,e',cw⟩:=cs.vg e
   rw[←cs.cn]at e' h1
   exact Am l1.typeIs Ea.lookup (wpAny_getItem_list_neg l1 (Int.lt_of_not_ge (by assumption)) (by rw[bT];lia) (by lia) (by rw[bT];simpa using e')<|.here cw)<|iX hs
  ·rw[aN h1]at e;exact nn e
theorem W8(hs:pt slice=true)(cv:dm c H s.heap v x)(cu:dm c H s.heap u i)(e:xg x i=some z):Op c A H (xw eM slice v u) s z:=by
 rcases dC e with e|e
 ·obtain⟨e1,e2,e⟩:=cj e
  obtain⟨_,yt⟩:=cu.cZ e2
  refine aK yt ?_
  exact LF hs (cv.eN e1) e
 rcases dC e with e|e
 ·obtain⟨e1,e2,e⟩:=cj e
  obtain⟨_,OF⟩:=cu.cZ e2
  refine aK OF ?_
  exact TA hs (cv.fH e1) e
 rcases dC e with e|e
 ·obtain⟨e1,e2,e⟩:=cj e
  obtain⟨_,EP⟩:=cu.cZ e2
  refine aK EP ?_
  exact OE hs (cv.bW e1) e
 rcases dC e with e|e
 ·obtain⟨e1,e2,e⟩:=cj e
  obtain⟨_,OB⟩:=cu.cZ e2
  refine aK OB ?_
  obtain⟨yu,hm,d,_,_,hp⟩:=cv.oQ e1
  refine aK yu ?_
  obtain⟨w,e',cw⟩:=hp.some e
  exact Am d.typeIs Eb.lookup (Zp (CF _ _ _ _) d.mapOf ((wF _ _).trans e')<|.nE cw _)<|iX hs
 ·obtain⟨e1,e2,e⟩:=cj e
  obtain⟨_,OC,_⟩:=cu.fH e2
  refine aK OC ?_
  obtain⟨OG,hm,d,_,_,hp⟩:=cv.dN e1
  refine aK OG ?_
  obtain⟨w,e',cw⟩:=hp.some e
  exact Am d.dictOf.typeIs Eb.lookup (Zp (xF _ _ _ _) d.dictOf.mapOf ((tN _ _).trans e')<|.nE cw _)<|iX hs
end
noncomputable def cD(e:aX):Bool:=e.ctorIdx !=(Expr.Starred default default).ctorIdx&&e.ctorIdx !=(acl none none none default).ctorIdx&&e.ctorIdx !=(Expr.Set [] 0 default).ctorIdx
structure tO(e:aX):Prop where
 TB: ∀rest au,gk (e::rest) au=(false,eval e au)::gk rest au
 set: ∀op,behindInMarks op e=false
 it: ∀au x,cH e au x=pure x
 aK:pt e=true
theorem da(h:cD e=true):tO e:=by
 cases e with
 |Starred=>cases h
 |Slice=>cases h
 |Set=>cases h
 |_=>exact⟨λU U=>rfl,λU=>rfl,λU U=>rfl,rfl⟩
section
variable{F:Fx}{x y:Dl->Rw->bc DV}{z:Dl->Rw->bc (aa DV)}{t:Dl->Rw->bc aM}
abbrev SE(F:Fx)(e:aX)(x:Dl->Rw->bc DV):Prop:=S F VD (eval e F.au) x
abbrev SL(F:Fx)(pos:jt)(es:aa aX)(x:Dl->Rw->bc (aa DV)):Prop:=S F VDs (wu<|lR pos<|gk es F.au) x
abbrev SB(F:Fx)(m:xt aM)(x:Dl->Rw->bc aM):Prop:=S F VB m x
theorem Gd.ZY(G:Gd F P r s):Tv F.c P.H r s:=λa e=>by
 refine aU λG9 k9=>?_
 obtain⟨_,_,n,vs,h,d⟩:=G.wd.row a e
 refine k9 ?_
 exact⟨G.hx _<|.inl e,vs,IsList.of h,d.cn.trans<|(aw _).trans mR⟩
theorem SL.nil:SL F pos [] (λU r=>.c [] r):=λP r s Q E G q=>aD ⟨.nil,.cm G.wd,q⟩
theorem SL.cons(he:tO e)(h1:SE F e x)(h2:SL F pos rest z):
  SL F pos (e::rest) (λδ r=>(x δ r).bind λv r=>(z δ r).bind λvs r=>.c (v::vs) r):=λP r s Q E G q=>by
 rw[he.TB]
 show wpAny _ _ (do
  let v ←eval e F.au
  let here ←(pure [v]:xt (aa ak))
  return here++(←jr here (wu (lR pos (gk rest F.au))))) _ _ s
 refine ac<|h1.then G q λv d s1 r1 cv G1 T1 q1=>ac<|aD<|ac<|dA ?_
 exact hZ T1<|h2.then G1 q1 λvs ds s2 r2 cs G2 T2 q2=>aD ⟨.cons (cv.g9<|G1.g9 T2) cs,T1.seq T2,q2⟩
theorem S.bin(h1:SE F l x)(h2:SE F r y):SE F (.BinOp l op r pos) (λδ r=>(x δ r).bind λa r=>(y δ r).bind λb r=>bc.fG (yc op a b) r):=λP r s Q E G q=>
 wpAny_BinOp (h1.then G q λv d s1 r1 cv G1 T1 q1=>hZ T1 (h2.then G1 q1 λu d' s2 r2 cu G2 T2 q2=>by
  obtain⟨e,q2⟩:=bc.dU q2
  exact CA (T1.seq T2) (Ts G2.iu (cv.g9 (G1.g9 T2)) cu e) q2))
theorem S.neg(h:SE F e x):SE F (.UnaryOp .USub e pos) (λδ r=>(x δ r).bind λx r=>bc.fG (x.cZ.map λi=>.a (-i)) r):=λP r s Q E G q=>
 afL (h.then G q λv d s1 r1 cv G1 T1 q1=>by
  obtain⟨e,q1⟩:=bc.dU q1
  obtain⟨e,hz⟩:=c9 e
  obtain⟨_,oS⟩:=cv.cZ e
  refine aK oS ?_
  cases hz
  exact acw ⟨.int _ _,T1.seq (.nE G1.wd _),q1⟩)
theorem S.not(h:SE F e x):SE F (.UnaryOp .Not e pos) (λδ r=>(x δ r).bind λx r=>bc.fG ((j3 x).map λb=>.j<|!b) r):=λP r s Q E G q=>
 afL (h.then G q λv d s1 r1 cv G1 T1 q1=>by
  obtain⟨e,q1⟩:=bc.dU q1
  obtain⟨e1,hz⟩:=c9 e
  cases hz
  exact not_of (uv cv e1 ⟨.bool _,T1,q1⟩))
theorem S.cmp(hs:tO r)(h1:SE F l x)(h2:SE F r y):SE F (.Compare l [op] [r] pos) (λδ r=>(x δ r).bind λa r=>(y δ r).bind λb r=>bc.fG ((EF op a b r).map .j) r):=λP r s Q E G q=>
 wpAny_Compare1 (h1.then G q λv d s1 r1 cv G1 T1 q1=>hZ T1 (h2.then G1 q1 λu d' s2 r2 cu G2 T2 q2=>by
  obtain⟨e,q2⟩:=bc.dU q2
  obtain⟨e,hz⟩:=c9 e
  refine aq (JD G2.ZY G2.WX (cv.g9<|G1.g9 T2) cu e) (λw s3 p=>?_) λU U z=>z.elim
  obtain⟨tk,ym,ad7⟩:=p
  refine aK ym ?_
  refine aK ad7 ?_
  cases hz
  exact⟨.bool _,(T1.seq T2).seq (.nE G2.wd _),q2⟩)) (hs.set _)
theorem SB.cmp(hs:tO r)(h1:SE F l x)(h2:SE F r y):SB F (jX (.Compare l [op] [r] pos) F.au sN) (λδ r=>(x δ r).bind λa r=>(y δ r).bind λb r=>bc.fG (EF op a b r) r):=λP r s Q E G q=>
 wpAny_isTrue_Compare1 (h1.then G q λv d s1 r1 cv G1 T1 q1=>hZ T1 (h2.then G1 q1 λu d' s2 r2 cu G2 T2 q2=>by
  obtain⟨e,q2⟩:=bc.dU q2
  refine aq (JD G2.ZY G2.WX (cv.g9<|G1.g9 T2) cu e) (λw s3 p=>?_) λU U z=>z.elim
  obtain⟨tk,oS,ad8⟩:=p
  refine aK oS ?_
  refine aK ad8 ?_
  exact YP ⟨rfl,(T1.seq T2).seq (.nE G2.wd _),q2⟩)) (hs.set _)
theorem SB.not(h:SB F (jX e F.au<|eval e F.au) t):SB F (jX (.UnaryOp .Not e pos) F.au sN) (λδ r=>(t δ r).bind λb r=>.c (!b) r):=λP r s Q E G q=>
 wpAny_isTrue_Not (h.then G q λb d s1 r1 e G1 T1 q1=>⟨aE _ e,T1,q1⟩)
theorem SB.eM(he:jX e F.au sN=(do let v ←sN;jS e.pos;jr [v] (WI v)))(h:S F VD sN x):
  SB F (jX e F.au sN) (λδ r=>(x δ r).bind λv r=>bc.fG (j3 v) r):=λP r s Q E G q=>
 wpAny_isTrue_value (h.then G q λv d s1 r1 cv G1 T1 q1=>by
  obtain⟨e,q1⟩:=bc.dU q1
  exact uv cv e ⟨rfl,T1,q1⟩) he
theorem PV.hF{α β:Type}{D:af->af->β->α->Prop}{D':af->af->β->α->Prop}{s s1 s2 r1 Q b}(T:gc F r1 s s1)(hD: ∀s2 b d,D s1 s2 b d->D' s s2 b d)(p:PV F D s1 Q b s2):PV F D' s Q b s2:=by
 obtain⟨d,T',q⟩:=p
 exact⟨hD _ _ _ d,T.seq T',q⟩
theorem S.from{α β:Type}{D}{t:xt β}{x:Dl->Rw->bc α}(h:S F D t x)(hD: ∀c H s s1 s2 b d,D c H s1 s2 b d->D c H s s2 b d){P r1 s s1 Q E}(T:gc F r1 s s1)(G:Gd F P r1 s1)(q:(x P.δ r1).wp Q E):wpAny F.M F.A t (PV F (D F.c P.H) s Q) (PX F s E) s1:=
 aq (h P r1 s1 Q E G q) (λU U p=>p.hF T λU U U=>hD _ _ _ _ _ _ _) λU U p=>p.hF T
theorem S.ite{t' b e:aX}{pos:jt}(ht:SB F (jX t' F.au<|eval t' F.au) t)(h1:SE F b x)(h2:SE F e y):SE F (.IfExp t' b e pos) (λδ r=>(t δ r).bind λc r=>if c=true then x δ r else y δ r):=λP r s Q E G q=>
 wpAny_IfExp (ht.then G q λb d s1 r1 e G1 T1 q1=>by
  cases e
  cases b with
  |true=>exact h1.from (λU U U U U U U d=>d) T1 G1 q1
  |false=>exact h2.from (λU U U U U U U d=>d) T1 G1 q1)
theorem SB.nil:SB F (NP op [] F.au) (λU r=>match op with|.And=>.c true r|.Or=>.c false r):=λP r s Q E G q=>by
 cases op with
 |And=>exact wpAny_allTrue_And_nil ⟨rfl,.cm G.wd,q⟩
 |Or=>exact wpAny_allTrue_Or_nil ⟨rfl,.cm G.wd,q⟩
theorem SB.cons{op:NS}{e:aX}{rest:aa aX}{u:Dl->Rw->bc aM}(h1:SB F (jX e F.au<|eval e F.au) t)(h2:SB F (NP op rest F.au) u):
  SB F (NP op (e::rest) F.au) (λδ r=>(t δ r).bind λb r=>match op with
   |.And=>if b=true then u δ r else .c false r
   |.Or=>if b=true then .c true r else u δ r):=λP r s Q E G q=>by
 cases op with
 |And=>
  refine wpAny_allTrue_And_cons<|h1.then G q λb d s1 r1 e G1 T1 q1=>?_
  cases e
  cases b with
  |true=>exact h2.from (λU U U U U U U d=>d) T1 G1 q1
  |false=>exact⟨rfl,T1,q1⟩
 |Or=>
  refine wpAny_allTrue_Or_cons<|h1.then G q λb d s1 r1 e G1 T1 q1=>?_
  cases e
  cases b with
  |true=>exact⟨rfl,T1,q1⟩
  |false=>exact h2.from (λU U U U U U U d=>d) T1 G1 q1
theorem SB.ZZ(h:SB F (NP op es F.au) t):SB F (jX (.BoolOp op es pos) F.au sN) t:=
 λP r s Q E G q=>wpAny_isTrue_BoolOp<|h P r s Q E G q
set_option tactic.hygienic true in
theorem S.Z0{op:NS}{e1 e2:aX}{rest:aa aX}{pos:jt}(h1:SE F e1 x)(h2:SE F (.BoolOp op (e2::rest) pos) y):
  SE F (.BoolOp op (e1::e2::rest) pos) (λδ r=>(x δ r).bind λv r=>(bc.fG (j3 v) r).bind λb r=>match op with
   |.And=>if b=true then y δ r else .c v r
   |.Or=>if b=true then .c v r else y δ r):=λP r s Q E G q=>by
 cases op with
 |And=>
  refine BoolOp_and<|h1.then G q λv d s1 r1 cv G1 T1 q1=>?_
  obtain⟨e,q1⟩:=bc.dU<|bc.de q1
  refine uv cv e ?_
  rename_i b
  cases b with
  |true=>exact h2.from (λU U U U U U U d=>d) T1 G1 q1
  |false=>exact⟨cv,T1,q1⟩
 |Or=>
  refine BoolOp_or<|h1.then G q λv d s1 r1 cv G1 T1 q1=>?_
  obtain⟨e,q1⟩:=bc.dU<|bc.de q1
  refine uv cv e ?_
  rename_i b
  cases b with
  |true=>exact⟨cv,T1,q1⟩
  |false=>exact h2.from (λU U U U U U U d=>d) T1 G1 q1
theorem S.attr(O:F.c.Ok)(hx:n=br (aO f))(h:SE F o x)
  (he:eval (.Attribute o n pos) F.au=(do
   let v ←eval o F.au
   jS pos.atName
   let r ←jr [v] (te v n true)
   pV o v r
   pure r)):SE F (.Attribute o n pos) (λδ r=>(x δ r).bind λx r=>bc.fG (sL x f) r):=λP r s Q E G q=>by
 subst hx
 exact G5 (h.then G q λv d s1 r1 cv G1 T1 q1=>by
  obtain⟨e,q1⟩:=bc.dU q1
  exact CA T1 (Tz O G1.wd cv e) q1) he
theorem S.idx(hs:tO i)(h1:SE F o x)(h2:SE F i y):SE F (.Subscript o i pos) (λδ r=>(x δ r).bind λa r=>(y δ r).bind λb r=>bc.fG (xg a b) r):=λP r s Q E G q=>
 acP (h1.then G q λv d s1 r1 cv G1 T1 q1=>hZ T1 (h2.then G1 q1 λu d' s2 r2 cu G2 T2 q2=>by
  obtain⟨e,q2⟩:=bc.dU q2
  exact CA (T1.seq T2) (W8 hs.aK (cv.g9 (G1.g9 T2)) cu e) q2))
theorem Ho{H:az->Prop}{h h':cy}{a}(iu: ∀b,H b-> ∃o,h.get? b=some o)(e:h.get? a=none): ¬H a:=λq=>by obtain⟨o,z⟩:=iu a q;exact nomatch e.symm.trans z
theorem S.LG{t}{x}{D}(h:S F D t x)(k: ∀c H s s' v d,(∀b,H b-> ∃o,s.heap.get? b=some o)->D c H s s' v d->dm c H s'.heap v d):S F VD t x:=λP r s Q E G q=>
 aq (h P r s Q E G q) (λv s' p=>by obtain⟨d,T,q⟩:=p;exact⟨k _ _ _ _ _ _ G.iu d,T,q⟩) λU U p=>p
end
theorem ms(h:args.all cD=true):(lR pos<|gk args au).any (λx=>x.1)=false:=by
 induction args with
 |nil=>rfl
 |cons e r ih=>
  rw[bw,be]at h
  rw[(da h.1).TB]
  exact ih h.2
section
variable{c:Cx}{A:eX}{H:az->Prop}{s:af}{r:Rw}{RE:ak->af->Prop}{au:tx}
theorem jk{Q:ak->af->Prop}(hst:args.all cD=true)(K:c.K.In s.heap)
  (hf:(∃id,f=.builtin id)\/(∃T,f=.type T)\/vh c.K f=true)
  (h:wpAny (model c.prog c.w) A (wu<|lR pos<|gk args au) (λvs s₁=>c.K.In s₁.heap/\wpAny (model c.prog c.w) A (call f<|first++vs) Q RE s₁) RE s):
  wpAny (model c.prog c.w) A (adE pos f first (lR pos<|gk args au) []) Q RE s:=by
 cases args with
 |nil=>
  have h0:wpAny (model c.prog c.w) A (call f<|first++[]) Q RE s:=λΓ p hΓ=>(h Γ p hΓ).2 Γ p hΓ
  rcases hf with⟨id,rfl⟩|⟨T,rfl⟩|hf
  ·exact acM (by simpa using h0)
  ·exact Je (args:=[]) rfl<|acJ (by simpa using h0)
  ·exact S9 K hf h0
 |cons e r=>
  rw[bw,be]at hst
  have he:=(da hst.1).TB r au
  rcases hf with⟨id,rfl⟩|⟨T,rfl⟩|hf
  ·exact acL (aq h (λU U q=>q.2) λU U q=>q) he<|ms hst.2
  ·rw[he]at h ⊢
   exact Je (by show(false||(lR pos (gk r au)).any (λx=>x.1))=false;rw[ms hst.2];rfl)<|Calls.evalArgs_plain<|aq h (λU U q=>q.2) λU U q=>q
  ·exact callWith_K K hf h he<|ms hst.2
theorem W9(cv:dm c H s.heap v x)(e:ZG x=some z):Op c A H (call (.builtin "len") [v]) s z:=by
 rcases dC e with e|e
 ·obtain⟨e1,hz⟩:=c9 e
  obtain⟨yt,ho,_,hl,cs⟩:=cv.bW e1
  refine aK yt ?_
  cases hz
  refine Calls.call_len_list (IsList.of ho) (by rw[bT];lia) ?_
  rw[bT,cs.cn]
  exact⟨.int _ _,.nE ..⟩
 rcases dC e with e|e
 ·obtain⟨e1,hz⟩:=c9 e
  obtain⟨yr,hm,hd,_,hl,cs⟩:=cv.oQ e1
  refine aK yr ?_
  cases hz
  refine call_len_dict hm hd (by lia) ?_
  rw[cs.cn]
  exact⟨.int _ _,.nE ..⟩
 ·obtain⟨e1,hz⟩:=c9 e
  obtain⟨_,yu,hl⟩:=cv.fH e1
  refine aK yu ?_
  cases hz
  refine acA (by rw[dP];lia) ?_
  rw[dP]
  exact⟨.int _ _,.nE ..⟩
theorem Xa(hv:v=.int i t):Op c A H (call (.builtin "abs") [v]) s (.a i.natAbs):=by
 refine aK hv ?_
 refine acK λu tk=>?_
 rw[show(if i<0 then -i else i)=(i.natAbs:aL) by split;exact WR (by assumption);exact(WQ<|dS.mp (by assumption)).symm]
 exact⟨.int _ _,.nE ..⟩
theorem TC(hA:A.handled=none)(hv:v=.int i t)(hu:u=.int j t'):Op c A H (call (.builtin "max") [v,u]) s (.a<|max i j):=by
 subst hv hu
 refine max_two_ints hA λh' tk k=>⟨?_,.Lw _ k⟩
 by_cases h:j>i
 ·rw[aJ h,qO<|bz h];exact .int _ _
 ·rw[aN h,Ar<|dS.mp h];exact .int _ _
theorem LH(e:tI xs=some is):xs=is.map .a:=by
 induction xs generalizing is with
 |nil=>cases e;rfl
 |cons x r ih=>
  obtain⟨e1,e2,e⟩:=cj e
  cases e
  rw[DV.Cz e1,ih e2];rfl
theorem Hp(D:e8 c H s.heap vs (is.map .a)): ∃xs:pZ (aL×Tok),vs.toArray=adD xs/\xs.toList.map (λx=>x.1)=is:=by
 induction is generalizing vs with
 |nil=>cases D.Hg;exact⟨#[],by simp[adD],rfl⟩
 |cons i r ih=>
  obtain⟨v,ws,oS,a,b⟩:=D.un
  refine aK oS ?_
  obtain⟨t,ym⟩:=a.pk
  refine aK ym ?_
  obtain⟨xs,e1,e2⟩:=ih b
  refine⟨((i,t)::xs.toList).toArray,?_,aE (i:: ·) e2⟩
  apply Lh
  have:=aE Array.toList e1
  simp only[adD,Array.toList_map]at this ⊢
  simp[←this]
theorem CI(val:av->aL): ∀k,val (NO (λi j=>decide<|val i>val j) k)=((bp k).map λi=>val<|i+1).foldl max (val 0):=λk=>by
 induction k with
 |zero=>rfl
 |succ k ih=>
  rw[List.range_succ,mB,NW]
  refine aK ih.symm ?_
  refine(?_:val (if decide (val (k+1)>val (NO _ k))=true then k+1 else NO _ k)=max _ _)
  by_cases h:val (k+1)>val (NO (λi j=>decide<|val i>val j) k)
  ·rw[aJ<|ab h];exact(qO<|bz h).symm
  ·rw[aN (by simpa using h)];exact(Ar<|dS.mp h).symm
theorem Hq(e:xs.toList.map (λx=>x.1)=i::is):numAt xs (NO (λi j=>decide<|numAt xs i>numAt xs j)<|xs.size - 1)=is.foldl max i:=by
 have hl:xs.size=is.length+1:=by have:=aE x8 e;simpa using this
 have hn: ∀k,numAt xs k=(i::is).getD k 0:=λk=>by rw[←e];unfold numAt;simp[adQ]
 rw[CI<|numAt xs,hn,hl,NU]
 refine(?_:A8 max i _=_)
 congr 1
 apply List.ext_getElem
 ·simp
 ·intro k h1 h2
  simp only[xz,nX,hn]
  simp[adQ,h2]
theorem TD(hA:A.handled=none)(L:d4 c H s.heap v xs)(e1:tI xs=some is)(e:WW is=some z):Op c A H (call (.builtin "max") [v]) s z:=by
 cases is with
 |nil=>exact nn e
 |cons i is=>
  obtain⟨oS,ho,_,hl,cs⟩:=L
  refine aK oS ?_
  rw[LH e1]at cs
  obtain⟨ys,y1,y2⟩:=Hp cs
  have l1:=IsList.of ho
  rw[y1]at l1
  refine aK (dT e) ?_
  have hn:ys.size=is.length+1:=by have:=aE x8 y2;simpa using this
  refine max_intList hA l1 (by lia) λv h' tk q k=>?_
  obtain⟨t,Z1⟩:=intItems_at q
  refine aK Z1 ?_
  refine aK (Hq y2) ?_
  exact⟨.int _ _,.Lw _ k⟩
theorem Hr(i:aL):br (aQ i)=nK (toString i):=by unfold br aQ;simp
theorem Xb(hv:v=.int i t)(h:(gH i&&decide ((aQ i).length<=9999))=true):Op c A H (call (.type "str") [v]) s (.d<|aQ i):=by
 refine aK hv ?_
 rw[be]at h
 refine PySem.P.str_of_int (eE (vF<|vE h.1) (by decide)) ?_
 refine aK (show(toString i:b9)=br (aQ i) from(Hr i).symm) ?_
 exact⟨.str _ _<|ah h.2,.nE ..⟩
theorem Xc(hv:v=.int i t)(h:0<=i/\i<1000):Op c A H (call (.builtin "chr") [v]) s (.d [i.toNat]):=by
 refine aK hv ?_
 refine PySem.P.chr_of_int ?_ ⟨.str [i.toNat] _ (show 1<=9999 by decide),.nE ..⟩
 simp only[Jp,sC]
 exact⟨dS.mpr (mD.left (by assumption)),dS.mpr<|bz<|bd (mD.right (by assumption)) (by decide)⟩
end
inductive iy(c:Cx)(H:az->Prop)(h:cy)(v:ak)(xs:aa DV)(L:aa az):Prop
 |mk {a n vs} (e:v=.ref a) (eL:L=[a]) (ho:h.get? a=some (eZ vs n)) (hl:vs.length<=9999) (hs:e8 c H h vs xs)
inductive tP(c:Cx)(H:az->Prop)(h:cy)(v:ak)(xs:aa (aa av×DV))(L:aa az):Prop
 |mk {a ep} {kvs:aa (aa av×ak)} (e:v=.ref a) (eL:L=[a]) (hm:(a==f5)=false) (hd:h.DictAt (eQ c.prog c.w) a (kvs.map λp=>(br p.1,p.2)) ep) (hl:kvs.length<=99) (hs:j7 c H h kvs xs)
inductive yw(c:Cx)(H:az->Prop)(h:cy)(v:ak)(xs:aa (aL×DV))(L:aa az):Prop
 |mk {a} {kvs:aa (aL×ak)} (e:v=.ref a) (eL:L=[a]) (hm:(a==f5)=false) (hd:h.DictOf (gN c.prog c.w) a kvs) (hl:kvs.length<=9999) (hs:j7 c H h kvs xs)
def ii(c:Cx)(H:az->Prop)(h:cy)(v:ak)(d:DV)(L:aa az):Prop:=
 match d with
 |.c xs=>iy c H h v xs L
 |.h xs=>tP c H h v xs L
 |.o xs=>yw c H h v xs L
 |.f=>v=.none/\L=[]
 |.j _=>cC
 |.a _=>cC
 |.d _=>cC
 |.g _=>cC
 |.n _ _=>cC
 |.m=>cC
inductive Z4(c:Cx)(H:az->Prop)(h:cy)(v:ak)(d:DV)(L:aa az):Prop
 |mk {a dx m} (vk vi va:ak) (kd it cx:DV) {Li La} (e:v=.ref a) (ed:d=jD kd it cx) (eL:L=a::dx::(Li++La)) (nd:L.Nodup) (ho:h.get? a=some (iF (c.cls 0) dx)) (hm:j6 h dx m 5)
   (hf: ∀f≤5,m (br<|aO f)=[(0,vk),(1,vi),(2,va),(3,qK false),(4,.bool false)].lookup f) (hk:dm c H h vk kd) (hi:ii c H h vi it Li) (ha:ii c H h va cx La)
def nQ(c:Cx)(H:az->Prop)(h:cy)(v:ak)(d:DV)(L:aa az):Prop:=ii c H h v d L\/Z4 c H h v d L
def TE(L:aa az)(h h':cy):Prop:= ∀a∈L,∀o,h.get? a=some o->h'.get? a=some o
section
variable{c:Cx}{H H':az->Prop}{h h':cy}{v:ak}{d:DV}{L:aa az}
theorem j7.aW{κ:Type}{fs:aa (κ×ak)}{xs:aa (κ×DV)}(k:mF H h h')(u:qR H H' h)(x:j7 c H h fs xs):j7 c H' h' fs xs:=x.Tm λU U z=>⟨z.1,z.2.aW k u⟩
theorem ii.aW(k:mF H h h')(u:qR H H' h)(l:TE L h h')(x:ii c H h v d L):ii c H' h' v d L:=by
 cases d with
 |c xs=>
  obtain⟨e,rfl,ho,hl,hs⟩:=x
  exact .mk e rfl (l _ (.head _) _ ho) hl<|e8.aW k u hs
 |h xs=>
  obtain⟨e,rfl,hm,⟨o,es,ho,r⟩,hl,hs⟩:=x
  exact .mk e rfl hm ⟨o,es,l _ (.head _) _ ho,r⟩ hl<|hs.aW k u
 |o xs=>
  obtain⟨e,rfl,hm,⟨o,es,ep,ho,r⟩,hl,hs⟩:=x
  exact .mk e rfl hm ⟨o,es,ep,l _ (.head _) _ ho,r⟩ hl<|hs.aW k u
 |f=>exact x
 |_=>exact x.elim
theorem ii.nB(u: ∀b,H' b->H b)(n: ∀a∈L,¬H' a)(x:ii c H h v d L):dm c H' h v d:=by
 have k:=mF.cm H h
 have u:=qR.f9 (h:=h) u
 cases d with
 |c xs=>
  obtain⟨rfl,rfl,ho,hl,hs⟩:=x
  have hs:=e8.aW k u hs
  exact .list ho (n _<|.head _) hl hs.cn hs.cx
 |h xs=>
  obtain⟨rfl,rfl,hm,hd,hl,hs⟩:=x
  have hs:=hs.aW k u
  exact .Bf hm hd (n _<|.head _) hl hs.cn (λi p q e1 e2=>(hs.cx i p q e1 e2).1) λi p q e1 e2=>(hs.cx i p q e1 e2).2
 |o xs=>
  obtain⟨rfl,rfl,hm,hd,hl,hs⟩:=x
  have hs:=hs.aW k u
  exact .Bg hm hd (n _<|.head _) hl hs.cn (λi p q e1 e2=>(hs.cx i p q e1 e2).1) λi p q e1 e2=>(hs.cx i p q e1 e2).2
 |f=>rw[x.1];exact .none
 |_=>exact x.elim
theorem nQ.aW(k:mF H h h')(u:qR H H' h)(l:TE L h h')(x:nQ c H h v d L):nQ c H' h' v d L:=by
 rcases x with x|⟨vk,vi,va,kd,it,cx,e,ed,rfl,nd,ho,hm,hf,hk,hi,ha⟩
 ·exact .inl<|x.aW k u l
 ·refine .inr ⟨vk,vi,va,kd,it,cx,e,ed,rfl,nd,l _ (.head _) _ ho,hm.keep<|l _<|.tail _<|.head _,hf,hk.aW k u,hi.aW k u λa m=>l a ?_,ha.aW k u λa m=>l a ?_⟩
  ·exact .tail _<|.tail _<|bO _ m
  ·exact .tail _<|.tail _<|cU _ m
theorem nQ.nB(u: ∀b,H' b->H b)(n: ∀a∈L,¬H' a)(x:nQ c H h v d L):dm c H' h v d:=by
 rcases x with x|⟨vk,vi,va,kd,it,cx,rfl,rfl,rfl,nd,ho,hm,hf,hk,hi,ha⟩
 ·exact x.nB u n
 ·have D:j7 c H' h [(0,vk),(1,vi),(2,va),(3,qK false),(4,.bool false)] [(0,kd),(1,it),(2,cx),(3,DV.j false),(4,.j false)]:=
   .cons ⟨rfl,hk.aW (.cm H h) (.f9 u)⟩ (.cons ⟨rfl,hi.nB u λa m=>n a (.tail _ (.tail _ (bO _ m)))⟩ (.cons ⟨rfl,ha.nB u λa m=>n a (.tail _ (.tail _ (cU _ m)))⟩
   (.cons ⟨rfl,.bool _⟩ (.cons ⟨rfl,.bool _⟩ .nil))))
  exact .Oe ho (bD _) (n _<|.head _) (n _<|.tail _<|.head _) hm hf D.cn (λi p q e1 e2=>(D.cx i p q e1 e2).1) λi p q e1 e2=>(D.cx i p q e1 e2).2
end
noncomputable abbrev HL(H:az->Prop)(L:aa az)(b:az):Prop:=H b\/b∈L
theorem LI{H:az->Prop}{L:aa az}{h:cy}(n: ∀a∈L,h.get? a=none):qR H (HL H L) h:=λb q=>q.imp id<|n b
theorem pu{a:az}{h:cy}(e:h.get? a=none): ∀b∈[a],h.get? b=none:=λb m=>by cases bh.mp m;exact e
def VO(c:Cx)(H:az->Prop)(s s':af)(v:ak)(d:DV):Prop:= ∃L,ii c (HL H L) s'.heap v d L/\ ∀a∈L,s.heap.get? a=none
theorem VO.nB{c H s s' v d}(iu: ∀b,H b-> ∃o,s.heap.get? b=some o)(x:VO c H s s' v d):dm c H s'.heap v d:=by
 refine bN x λL h9=>cK h9 λx n=>?_
 exact x.nB (λU=>.inl) λa m q=>by obtain⟨o,e⟩:=iu a q;exact nomatch (n a m).symm.trans e
def VW(c:Cx)(H:az->Prop)(s s':af)(v:ak)(d:DV):Prop:= ∃L,nQ c (HL H L) s'.heap v d L/\ ∀a∈L,s.heap.get? a=none
theorem VW.nB{c H s s' v d}(iu: ∀b,H b-> ∃o,s.heap.get? b=some o)(x:VW c H s s' v d):dm c H s'.heap v d:=by
 refine bN x λL h9=>cK h9 λx n=>?_
 exact x.nB (λU=>.inl) λa m q=>by obtain⟨o,e⟩:=iu a q;exact nomatch (n a m).symm.trans e
inductive Ay(c:Cx)(H:az->Prop)(s:af)(d:DV)(v:ak)(s':af):Prop
 |mk {L} (D:ii c (HL H L) s'.heap v d L) (n: ∀a∈L,s.heap.get? a=none) (g:Gr s s')
abbrev Z5(c:Cx)(A:eX)(H:az->Prop)(t:xt ak)(s:af)(d:DV):Prop:=wpAny (model c.prog c.w) A t (Ay c H s d) (λU U=>cC) s
section
variable{F:Fx}{P:Pt}{r r1:Rw}{s s1:af}{E:aa av->Rw->Prop}
theorem ac3{Q:DV->Rw->Prop}(T:gc F r1 s s1)(h:Z5 F.c F.A P.H t s1 d)(q:Q d r1):wpAny F.M F.A t (PV F (VO F.c P.H) s Q) (PX F s E) s1:=
 aq h (λv s2 p=>by obtain⟨D,n,g⟩:=p;exact⟨⟨_,D,λa m=>T.kp.dp<|n a m⟩,T.seq<|.gr T.wd g,q⟩) λU U z=>z.elim
theorem S.yf(h:S F VO t x):S F VW t x:=λP r s Q E G q=>
 aq (h P r s Q E G q) (λv s' p=>by
  obtain⟨D,T,q⟩:=p
  obtain⟨L,D,n⟩:=D
  exact⟨⟨L,.inl D,n⟩,T,q⟩) λU U p=>p
theorem S.ag3(h:S F VW t x):S F VD t x:=h.LG λU U U U U U=>VW.nB
theorem S.nF(h:S F VO t x):S F VD t x:=h.LG λU U U U U U=>VO.nB
end
section
variable{c:Cx}{A:eX}{H:az->Prop}{s:af}{r:Rw}{RE:ak->af->Prop}
theorem Ay.list{vs:aa ak}{xs:aa DV}{tk}(D:e8 c H s.heap vs xs)(hl:vs.length<=9999):Ay c H s (.c xs) (.ref s.heap.objs.size) {s with heap:=s.heap.push<|eZ vs 0,toks:=tk}:=
 ⟨iy.mk rfl rfl (aR _ rfl) hl<|e8.aW (.all λU U e=>aA _ e) (LI<|pu<|bL _) D,pu<|bL _,.push ..⟩
theorem Ay.of(ha:s.heap.get? a=none)(e:h'.get? a=some (eZ vs n))(k: ∀b o,s.heap.get? b=some o->h'.get? b=some o)(D:e8 c (HL H [a]) h' vs xs)(hl:vs.length<=9999):
  Ay c H s (.c xs) (.ref a) {s with heap:=h',toks:=tk}:=⟨iy.mk rfl rfl e hl D,λb m=>by cases bh.mp m;exact ha,.Lw _ k⟩
theorem TF{v xs}(L:d4 c H s.heap v xs):Z5 c A H (call (.type "list") [v]) s (.c xs):=by
 obtain⟨rfl,ho,_,hl,hs⟩:=L
 exact call_list_seq _ (.inl rfl) ho rfl rfl (λh' c' k e'=>.of (bL _) e' k (e8.aW (.all k) (LI<|pu<|bL _) hs) hl)<|dD (by rw[bT];exact ao (by assumption) (by decide))
theorem TG{v xs}(O:c.Ok)(W:Wd c r s)(L:rY c H s.heap v xs):Z5 c A H (call (.type "dict") [v]) s (.h xs):=by
 obtain⟨rfl,hm,hd,_,hl,hs⟩:=L
 refine kt_call_dict hm hd.dictOf (dD (by rw[aw];exact ao (by assumption) (by decide))) λh' d' sb=>?_
 have k: ∀b o,s.heap.get? b=some o->h'.get? b=some o:=λb o e=>by
  refine(sb.2 b λz=>?_).trans<|aA _ e
  rw[z,bL]at e;cases e
 obtain⟨Xd,d'⟩:=d'.dictAt
 exact⟨tP.mk rfl rfl (W.vH O) d' hl<|j7.aW (.all k) (LI<|pu<|bL _) hs,λb m=>by cases bh.mp m;exact bL _,.Lw (tk:=s.toks) _ k⟩
end
section
variable{F:Fx}{P:Pt}{r r1:Rw}{s s1:af}{E:aa av->Rw->Prop}{RE:ak->af->Prop}{x:Dl->Rw->bc DV}{z:Dl->Rw->bc (aa DV)}
noncomputable def gp(au:tx)(n:b9):Bool:=au.kindOf n==some .globalImplicit&& !(n==("__debug__":b9))
theorem pv(h:gp au n=true):au.kindOf n=some .globalImplicit/\(n==("__debug__":b9))=false:=by
 unfold gp at h
 rw[be,f4]at h
 exact⟨h.1,by simpa using h.2⟩
theorem jM{Q:ak->af->Prop}(O:F.c.Ok)(G:Gd F P r s)(hk:gp F.au n=true)(hn:nsIn F.c.K cf n=some (some v))(q:Q v s):wpAny F.M F.A (eval (.Name n pos) F.au) Q RE s:=
 nM G.ev.kind (pv hk).1 (Eh (by rw[G.ev.globals];exact O.g.keeps G.wd.cV) (mg_of O.K O.g hn) q) (pv hk).2
theorem fR{Q:ak->af->Prop}(O:F.c.Ok)(G:Gd F P r s)(hk:gp F.au n=true)(hn:n∈CE)(hx:n≠"__name__")(hv:NN n=some v)(q:Q v s):wpAny F.M F.A (eval (.Name n pos) F.au) Q RE s:=
 nM G.ev.kind (pv hk).1 (Calls.loadGlobal_builtin (by rw[G.ev.globals];exact O.g.keeps G.wd.cV) (mg_none_of O.K O.g<|O.bns n hn) (by rw[G.ev.builtins];exact O.b.keeps G.wd.cV) ((O.builtins n hx).trans hv) q) (pv hk).2
structure pz(n:b9)(v:ak):Prop where
 mem:n∈CE
 ne:n≠"__name__"
 is:NN n=some v
 kind:(∃id,v=.builtin id)\/(∃T,v=.type T)
theorem S.JE{n:b9}{np pos:jt}{args:aa aX}{bv:ak}{D}{f:aa DV->ag DV}(O:F.c.Ok)(hb:pz n bv)(hk:gp F.au n=true)(hst:args.all cD=true)(h:SL F pos args z)
  (hB: ∀P r1 s s1 vs xs d Q,Gd F P r1 s1->gc F r1 s s1->e8 F.c P.H s1.heap vs xs->f xs=some d->Q d r1->wpAny F.M F.A (bS bv vs) (PV F (D F.c P.H) s Q) (λU U=>cC) s1):
  S F D (eval (.Call (.Name n np) args [] pos) F.au) (λδ r=>(z δ r).bind λvs r=>bc.fG (f vs) r):=λP r s Q E G q=>by
 refine cR<|fR O G hk hb.mem hb.ne hb.is<|jk hst (G.wd.K O) (hb.kind.imp id .inl) ?_
 refine h.then G q λvs xs s1 r1 cs G1 T1 q1=>⟨G1.wd.K O,?_⟩
 obtain⟨e,q1⟩:=bc.dU q1
 exact aq (hB P r1 s s1 vs xs _ Q G1 T1 cs e q1) (λU U p=>p) λU U z=>z.elim
theorem xG{Q:DV->Rw->Prop}(T:gc F r1 s s1)(h:Op F.c F.A H t s1 d)(q:Q d r1):wpAny F.M F.A t (PV F (VD F.c H) s Q) (λU U=>cC) s1:=
 aq h (λv s2 p=>by obtain⟨D,g⟩:=p;exact⟨D,T.seq<|.gr T.wd g,q⟩) λU U z=>z
theorem OH{Q:DV->Rw->Prop}(T:gc F r1 s s1)(h:Z5 F.c F.A H t s1 d)(q:Q d r1):wpAny F.M F.A t (PV F (VO F.c H) s Q) (λU U=>cC) s1:=
 aq h (λv s2 p=>by obtain⟨D,n,g⟩:=p;exact⟨⟨_,D,λa m=>T.kp.dp<|n a m⟩,T.seq<|.gr T.wd g,q⟩) λU U z=>z
theorem uy{n:b9}{np pos:jt}{args:aa aX}{bv:ak}{f:DV->ag DV}(O:F.c.Ok)(hb:pz n bv)(hk:gp F.au n=true)(hst:args.all cD=true)(h:SL F pos args z)
  (hB: ∀H (s:af) v x d,dm F.c H s.heap v x->f x=some d->Op F.c F.A H (bS bv [v]) s d):SE F (.Call (.Name n np) args [] pos) (λδ r=>(z δ r).bind λvs r=>bc.fG (jx vs f) r):=
 S.JE O hb hk hst h λP r1 s s1 vs xs d Q G T cs e q=>by
  refine n9 cs e λv U cv e=>?_
  exact xG T (hB _ _ _ _ _ cv e) q
theorem JF{n:b9}{np pos:jt}{args:aa aX}{bv:ak}{f:DV->ag DV}(O:F.c.Ok)(hb:pz n bv)(hk:gp F.au n=true)(hst:args.all cD=true)(h:SL F pos args z)
  (hB: ∀H r (s:af) v x d,Wd F.c r s->dm F.c H s.heap v x->f x=some d->Z5 F.c F.A H (bS bv [v]) s d):S F VO (eval (.Call (.Name n np) args [] pos) F.au) (λδ r=>(z δ r).bind λvs r=>bc.fG (jx vs f) r):=
 S.JE O hb hk hst h λP r1 s s1 vs xs d Q G T cs e q=>by
  refine n9 cs e λv U cv e=>?_
  exact OH T (hB _ _ _ _ _ _ G.wd cv e) q
noncomputable def CJ:Bi->b9
 |.cn=>"len"|.EC=>"abs"|.pi=>"max"|.Ll=>"max"|.str=>"str"|.Lm=>"chr"|.list=>"list"|.dict=>"dict"|.lT=>""|.wA=>""|.isStr=>""
noncomputable def JG:Bi->aM
 |.cn=>true|.EC=>true|.pi=>true|.Ll=>true|.str=>true|.Lm=>true|.list=>true|.dict=>true|.lT=>false|.wA=>false|.isStr=>false
theorem Xf:pz "len" (.builtin "len"):=⟨by decide+kernel,by decide+kernel,rfl,.inl ⟨_,rfl⟩⟩
theorem Xg:pz "abs" (.builtin "abs"):=⟨by decide+kernel,by decide+kernel,rfl,.inl ⟨_,rfl⟩⟩
theorem OI:pz "max" (.builtin "max"):=⟨by decide+kernel,by decide+kernel,rfl,.inl ⟨_,rfl⟩⟩
theorem Xh:pz "chr" (.builtin "chr"):=⟨by decide+kernel,by decide+kernel,rfl,.inl ⟨_,rfl⟩⟩
theorem Hs:pz "isinstance" (.builtin "isinstance"):=⟨by decide+kernel,by decide+kernel,rfl,.inl ⟨_,rfl⟩⟩
theorem CK:pz "str" (.type "str"):=⟨by decide+kernel,by decide+kernel,rfl,.inr ⟨_,rfl⟩⟩
theorem xH:pz "list" (.type "list"):=⟨by decide+kernel,by decide+kernel,rfl,.inr ⟨_,rfl⟩⟩
theorem TH:pz "dict" (.type "dict"):=⟨by decide+kernel,by decide+kernel,rfl,.inr ⟨_,rfl⟩⟩
theorem j9:pz "range" (.type "range"):=⟨by decide+kernel,by decide+kernel,rfl,.inr ⟨_,rfl⟩⟩
theorem vJ:pz "zip" (.type "zip"):=⟨by decide+kernel,by decide+kernel,rfl,.inr ⟨_,rfl⟩⟩
theorem S.biO(O:F.c.Ok)(hl:b=.list\/b=.dict)(hn:n=CJ b)(hk:gp F.au n=true)(hst:args.all cD=true)(h:SL F pos args z):
  S F VO (eval (.Call (.Name n np) args [] pos) F.au) (λδ r=>(z δ r).bind λvs r=>bc.fG (SH b vs) r):=by
 subst hn
 rcases hl with rfl|rfl
 ·exact JF O xH hk hst h λH r s v x d W cv e=>by
   obtain⟨e1,e⟩:=c9 e
   cases e
   exact TF<|cv.bW e1
 ·exact JF O TH hk hst h λH r s v x d W cv e=>by
   obtain⟨e1,e⟩:=c9 e
   cases e
   exact TG O W<|cv.dN e1
theorem S.bi{b:Bi}{n:b9}{np pos:jt}{args:aa aX}(O:F.c.Ok)(hp:JG b=true)(hn:n=CJ b)(hk:gp F.au n=true)(hst:args.all cD=true)(h:SL F pos args z):
  SE F (.Call (.Name n np) args [] pos) (λδ r=>(z δ r).bind λvs r=>bc.fG (SH b vs) r):=by
 subst hn
 cases b with
 |cn=>exact uy O Xf hk hst h λH s v x d cv e=>W9 cv e
 |EC=>
  exact uy O Xg hk hst h λH s v x d cv e=>by
   obtain⟨e1,e⟩:=c9 e
   cases e
   obtain⟨_,hv⟩:=cv.cZ e1
   exact Xa hv
 |pi=>
  exact S.JE O OI hk hst h λP r1 s s1 vs xs d Q G T cs e q=>by
   cases xs with
   |nil=>exact nn e
   |cons x xs=>
    obtain⟨e1,e⟩:=pp e
    subst e1
    obtain⟨v,ws,rfl,cv,cs⟩:=cs.un
    obtain⟨u,rfl,cu⟩:=cs.jx
    obtain⟨e1,e2,e⟩:=cj e
    cases e
    obtain⟨_,hv⟩:=cv.cZ e1
    obtain⟨_,hu⟩:=cu.cZ e2
    exact xG T (TC G.er.handled hv hu) q
 |Ll=>
  exact S.JE O OI hk hst h λP r1 s s1 vs xs d Q G T cs e q=>by
   refine n9 cs e λv U cv e=>?_
   obtain⟨e1,e⟩:=bind_some e
   obtain⟨e2,e⟩:=bind_some e
   exact xG T (TD G.er.handled (cv.bW e1) e2 e) q
 |str=>
  exact uy O CK hk hst h λH s v x d cv e=>by
   obtain⟨e1,e⟩:=bind_some e
   obtain⟨_,hv⟩:=cv.cZ e1
   exact dT e▸Xb hv (eh e)
 |Lm=>
  exact uy O Xh hk hst h λH s v x d cv e=>by
   obtain⟨e1,e⟩:=bind_some e
   obtain⟨_,hv⟩:=cv.cZ e1
   exact dT e▸Xc hv (yl<|eh e)
 |list=>exact(S.biO O (.inl rfl) rfl hk hst h).nF
 |dict=>exact(S.biO O (.inr rfl) rfl hk hst h).nF
 |_=>cases hp
structure Xi(K:uh)(C:az):Prop where
 vg:S5 K C "__class__"=true
 Z6:ji K (.ref C) "__class__"=some (some<|.builtin "object.__class__")
 Z7:specialIn K (.builtin "object.__class__") "__get__"=some (some<|.builtin "getset_descriptor.__get__")
 VS:takesIn K (.builtin "object.__class__")=some true
 mro:mroIn K C (.type "object")=some true
 str:kin_notT K C "str"=true
theorem Cx.Ok.VT{c:Cx}(O:c.Ok){k}(h:k<=2):Xi c.K (c.cls k):=by
 have h:=O.ZO k h
 unfold Hl at h
 simp only[be,f4]at h
 exact⟨h.1.1.1.1.1,h.1.1.1.1.2,h.1.1.1.2,h.1.1.2,h.1.2,h.2⟩
theorem vC.cx(I:vC c H h v k xs): ∃a od dx,v=.ref a/\WJ h a (iF (c.cls k) dx) (c.cls k) (some od)/\k<=2:=by
 obtain⟨rfl,hx,hk,_,_,⟨od,es,ep,hd,_⟩,_⟩:=I
 exact⟨_,od,_,rfl,⟨hx,rfl,rfl,hd⟩,hk⟩
theorem OJ{c A H r v x d}{s:af}(O:c.Ok)(W:Wd c r s)(cv:dm c H s.heap v x)(e:x.qy.map (λp=>DV.j<|p.1==0)=some d):Op c A H (bS (.builtin "isinstance") [v,.ref<|c.cls 0]) s d:=by
 obtain⟨e1,e⟩:=c9 e
 cases e
 obtain⟨a,od,dx,yt,I,hk⟩:=(cv.qy e1).cx
 refine aK yt ?_
 rename_i p
 obtain⟨k,fs⟩:=p
 have P2:=O.VT hk
 cases k with
 |zero=>exact isi_call (W.K O) (λM=>I.type) (by unfold isIn;rw[bH,Bool.true_or]) (by nofun) (.here (.bool true))
 |succ k=>exact kin_callC (W.K O) I (O.Em _ (fy (bD _)) hk) P2.vg (O.Hm hk).dict P2.Z6 P2.Z7 P2.VS P2.mro (.nE (.bool false) _)
theorem OK{c A H r v x d}{s:af}(O:c.Ok)(W:Wd c r s)(cv:dm c H s.heap v x)(e:Hc x=some d):Op c A H (bS (.builtin "isinstance") [v,.type "str"]) s d:=by
 have D:=cv.pk
 cases x with
 |d=>obtain⟨_,rfl,_⟩:=D;cases e;exact IsiPair.str_str (.here (.bool _))
 |g=>obtain⟨rfl,h1,h2,_⟩:=D;cases e;exact IsiPair.tuple_str h1 h2 (.nE (.bool _) _)
 |c=>obtain⟨rfl,ho,_⟩:=D;cases e;exact IsiPair.list_str ho rfl (.nE (.bool _) _)
 |n k fs=>
  cases e
  refine A9 (vC.cx D) λa od dx h9=>n7 h9 λz93 I hk=>?_
  refine aK z93 ?_
  have P2:=O.VT hk
  exact kin_callT (W.K O) I P2.str F.isi_meta_str P2.vg (O.Hm hk).dict P2.Z6 P2.Z7 P2.VS P2.mro<|.nE (.bool false) _
 |_=>exact nn e
theorem bP{Q:aa ak->af->Prop}(he:tO e)
  (h:wpAny F.M F.A (eval e F.au) (λv s1=>wpAny F.M F.A (wu<|lR pos<|gk rest F.au) (λvs s2=>Q (v::vs) s2) RE s1) RE s):wpAny F.M F.A (wu<|lR pos<|gk (e::rest) F.au) Q RE s:=by
 rw[he.TB]
 show wpAny _ _ (do
  let v ←eval e F.au
  let here ←(pure [v]:xt (aa ak))
  return here++(←jr here (wu (lR pos (gk rest F.au))))) _ _ s
 refine ac<|aq h (λv s1 h1=>?_) λU U z=>z
 exact ac<|aD<|ac<|dA<|aq h1 (λvs s2 h2=>aD h2) λU U z=>z
theorem eu{Q:aa ak->af->Prop}(h:Q [] s):wpAny F.M F.A (wu<|lR pos<|gk [] F.au) Q RE s:=aD h
theorem tQ(n:b9)(p:jt):tO (.Name n p):=da rfl
theorem S.isi{n m:b9}{np xI pos:jt}{e:aX}{C:ak}{f:DV->ag DV}(O:F.c.Ok)(hp:cD e=true)(hi:n="isinstance")(hk:gp F.au n=true)
  (hC: ∀P r s (Q:ak->af->Prop) RE,Gd F P r s->Q C s->wpAny F.M F.A (eval (.Name m xI) F.au) Q RE s) (h:SE F e x)
  (hB: ∀H r (s:af) v x d,Wd F.c r s->dm F.c H s.heap v x->f x=some d->Op F.c F.A H (bS (.builtin "isinstance") [v,C]) s d):
  SE F (.Call (.Name n np) [e,.Name m xI] [] pos) (λδ r=>(x δ r).bind λv r=>bc.fG (f v) r):=λP r s Q E G q=>by
 subst hi
 refine cR<|fR O G hk Hs.mem Hs.ne Hs.is<|jk (by rw[bw,hp];rfl) (G.wd.K O) (.inl ⟨_,rfl⟩) ?_
 refine bP (da hp)<|h.then G q λv d s1 r1 cv G1 T1 q1=>?_
 obtain⟨e1,q1⟩:=bc.dU q1
 exact bP (tQ ..)<|hC P r1 s1 _ _ G1<|eu ⟨G1.wd.K O,CA T1 (hB _ _ _ _ _ _ G1.wd cv e1) q1⟩
end
section
variable{F:Fx}{P:Pt}{r r1:Rw}{s s1:af}{E:aa av->Rw->Prop}{RE:ak->af->Prop}{x y:Dl->Rw->bc DV}{z:Dl->Rw->bc (aa DV)}
theorem yx{Q:DV->Rw->Prop}(T:gc F r1 s s1)(p:Ay F.c P.H s1 d v s2)(q:Q d r1):PV F (VO F.c P.H) s Q v s2:=by
 obtain⟨D,n,g⟩:=p
 exact⟨⟨_,D,λa m=>T.kp.dp<|n a m⟩,T.seq<|.gr T.wd g,q⟩
theorem S.list(h:SL F pos elts z):S F VO (eval (.List elts pos) F.au) (λδ r=>(z δ r).bind λvs r=>bc.fG (gL (decide<|vs.length<=999)<|.c vs) r):=λP r s Q E G q=>
 wpAny_List (h.then G q λvs xs s1 r1 cs G1 T1 q1=>by
  obtain⟨e,q1⟩:=bc.dU q1
  have hl:=ah<|eh e
  rw[←cs.cn]at hl
  exact⟨dD (ao hl (by decide)),yx (s2:={s1 with heap:=s1.heap.push (eZ vs 0),toks:=s1.toks}) T1 (dT e▸.list cs (ao hl (by decide))) q1⟩)
theorem S.tuple(h:SL F pos elts z):SE F (.Tuple elts k pos) (λδ r=>(z δ r).bind λvs r=>bc.fG (gL (decide<|vs.length<=999)<|.g vs) r):=λP r s Q E G q=>
 wpAny_Tuple_spliced (h.then G q λvs xs s1 r1 cs G1 T1 q1=>by
  obtain⟨e,q1⟩:=bc.dU q1
  have hl:=ah<|eh e
  rw[←cs.cn]at hl
  have k:=cs.g9 (h':=s1.heap.push {cls:=.type "tuple",data:=.seq vs.toArray})<|.all λU U e=>aA _ e
  exact⟨dD (ao hl (by decide)),dT e▸.tuple (aR _ rfl) rfl rfl rfl (Ho (h':=s1.heap) G1.iu (bL _)) (ao hl (by decide)) k.cn k.cx,T1.seq (.push G1.wd _ _),q1⟩)
noncomputable def vK(e:aX):Bool:=e.ctorIdx==(eW default default).ctorIdx
theorem ff{P:Prop}(h:false=true):P:=nomatch h
theorem tR(h:vK e=true)(o r:ak):pV e o r=pure ():=by
 cases e with
 |Name=>rfl
 |_=>exact ff h
theorem OL(h0:0<=k)(h1:k<=l.length):GF (br l) none (some k)=br (l.take k.toNat):=by
 rw[eq_of_beq<|slice_closes_toL (x:=br l) h0 (by rw[dP];exact h1)]
 simp[br]
theorem OM(h0:0<=k)(h1:k<=l.length):GF (br l) (some k) none=br (l.drop k.toNat):=by
 refine bN (kC h0) λn LD=>?_
 subst LD
 rw[slice_from_eq (x:=br l) h0 (by rw[dP];exact h1) (b:=(l.length:aL)) (by rw[dP]),Int.toNat_sub]
 simp only[br]
 exact aK (List.take_of_length_le (by simp)) rfl
theorem mX{Q:ak->af->Prop}(h:Q .none s):wpAny F.M F.A (evalPart none F.au) Q RE s:=aD h
inductive aeb(c:Cx)(H:az->Prop)(s:af)(v u:ak)(d:DV):Prop
 |mk {l items lo hi} (e:v=.ref l) (h1:s.heap.IsList l items) (h2:items.size<=GR) (h3:IsPart .none lo) (h4:IsPart u hi)
   (n:Ay c H s d (.ref<|s.heap.objs.size+1) {s with heap:=(s.heap.push {cls:=.type "slice",data:=.fields #[.none,u,.none]}).push {cls:=.type "list",data:=.seq (slicePick items lo hi none)}})
theorem TJ{H:az->Prop}(L:d4 c H s.heap v xs)(hu:u=.int k t)(h0:0<=k):aeb c H s v u (.c<|xs.take k.toNat):=by
 obtain⟨mV,ho,_,hl,cs⟩:=L
 refine aK mV ?_
 refine aK hu ?_
 refine⟨rfl,IsList.of ho,dD (by rw[bT];exact ao hl (by decide)),.none,.int _ _,?_⟩
 have ek:=hU h0
 rw[←ek,slicePick_upto',ek]
 obtain⟨D,n,g⟩:=Ay.list (c:=c) (H:=H) (tk:=s.toks) (s:={s with heap:=s.heap.push {cls:=.type "slice",data:=.fields #[.none,.int k t,.none]}}) (e8.g9 (cs.take k.toNat)<|.all λU U e=>aA _ e)<|ao (Jl ..) hl
 dsimp only at D
 rw[(gl (h:=s.heap) (o:={cls:=.type "slice",data:=.fields #[.none,.int k t,.none]}))]at D
 exact⟨D,λa m=>(Gr.push s _ s.toks).dp<|n a m,(Gr.push s _ s.toks).seq g⟩
theorem S.aec(hv:vK v=true)(h1:SE F v x)(h2:SE F up y):S F VO (eval (.Subscript v (.Slice none (some up) none p) pos) F.au) (λδ r=>(x δ r).bind λa r=>(y δ r).bind λb r=>bc.fG (VE a b) r):=λP r s Q E G q=>
 wpAny_Subscript_list_slice (h1.then G q λv d s1 r1 cv G1 T1 q1=>mX (hZ T1 (h2.then G1 q1 λu d' s2 r2 cu G2 T2 q2=>by
  refine aU λG9 k9=>?_
  obtain⟨e,q2⟩:=bc.dU q2
  obtain⟨e1,e2,e⟩:=cj e
  obtain⟨t,hu⟩:=cu.cZ e2
  obtain⟨k1,k2,k3,k4,k5,nv⟩:=TJ ((cv.g9<|G1.g9 T2).bW e1) hu (yl<|eh e).1
  refine k9 ?_
  exact⟨_,_,_,_,k1,k2,k3,k4,k5,yx (T1.seq T2) (dT e▸nv) q2⟩))) λo r=>tR hv o r
theorem ON{s:af}{v u:ak}{l:aa av}{k:aL}{t tu:Tok}{Q:ak->af->Prop}(hv:v=.str (br l) t)(hu:u=.int k tu)(hl:l.length<=9999)(hk:0<=k/\k<=l.length)
  (q: ∀t' tk,(l.take k.toNat).length<=9999->Q (.str (br<|l.take k.toNat) t') {s with heap:=s.heap.push {cls:=.type "slice",data:=.fields #[.none,u,.none]},toks:=tk}):
  ∃x t l u',v=.str x t/\ak.none=Nk l/\u=Nk u'/\(sliceMade x t l u' none).post Q {s with heap:=s.heap.push {cls:=.type "slice",data:=.fields #[.none,u,.none]}}:=by
 subst hv hu
 refine⟨br l,_,none,some (k,tu),rfl,rfl,rfl,aci (c:=((1:aL)==1&&(Ec (br l) none (some (k,tu)) none).length==(br l).length)=true) ?_⟩
 have e3:=OL hk.1 hk.2
 unfold GF at e3
 refine aK (show Ec (br l) none (some (k,tu)) none=vd none (some k) 1 (br l).length from rfl)<|aK e3 ?_
 have hl':=ao (Jl k.toNat l) hl
 exact⟨dD (ao (cX<|dP _)<|ao hl' (by decide)),λt' tk=>q t' tk hl'⟩
theorem OO{s:af}{v u:ak}{l:aa av}{k:aL}{t tu:Tok}{Q:ak->af->Prop}(hv:v=.str (br l) t)(hu:u=.int k tu)(hl:l.length<=9999)(hk:0<=k/\k<=l.length)
  (q: ∀t' tk,(l.drop k.toNat).length<=9999->Q (.str (br<|l.drop k.toNat) t') {s with heap:=s.heap.push {cls:=.type "slice",data:=.fields #[u,.none,.none]},toks:=tk}):
  ∃x t l' u',v=.str x t/\u=Nk l'/\ak.none=Nk u'/\(sliceMade x t l' u' none).post Q {s with heap:=s.heap.push {cls:=.type "slice",data:=.fields #[u,.none,.none]}}:=by
 subst hv hu
 refine⟨br l,_,some (k,tu),none,rfl,rfl,rfl,aci (c:=((1:aL)==1&&(Ec (br l) (some (k,tu)) none none).length==(br l).length)=true) ?_⟩
 have e3:=OM hk.1 hk.2
 unfold GF at e3
 refine aK (show Ec (br l) (some (k,tu)) none none=vd (some k) none 1 (br l).length from rfl)<|aK e3 ?_
 have hl':(l.drop k.toNat).length<=9999:=ao (ao (cX Sw)<|vn _ _) hl
 exact⟨dD (ao (cX<|dP _)<|ao hl' (by decide)),λt' tk=>q t' tk hl'⟩
theorem S.TK{v up:aX}{p pos:jt}(hv:vK v=true)(h1:SE F v x)(h2:SE F up y):SE F (.Subscript v (.Slice none (some up) none p) pos) (λδ r=>(x δ r).bind λa r=>(y δ r).bind λb r=>bc.fG (Bc a b) r):=λP r s Q E G q=>
 Jd (h1.then G q λv d s1 r1 cv G1 T1 q1=>mX (hZ T1 (h2.then G1 q1 λu d' s2 r2 cu G2 T2 q2=>by
  refine aU λG9 k9=>?_
  obtain⟨e,q2⟩:=bc.dU q2
  obtain⟨e1,e2,e⟩:=cj e
  obtain⟨t,hv,hl⟩:=cv.fH e1
  obtain⟨u,hu⟩:=cu.cZ e2
  refine k9 ?_
  exact ON hv hu hl (yl (eh e)) λU tk hl=>⟨dT e▸.str _ _ hl,(T1.seq T2).seq (.push G2.wd _ tk),q2⟩))) λo r=>tR hv o r
theorem S.aed{v up:aX}{p pos:jt}(hv:vK v=true)(h1:SE F v x)(h2:SE F up y):SE F (.Subscript v (.Slice (some up) none none p) pos) (λδ r=>(x δ r).bind λa r=>(y δ r).bind λb r=>bc.fG (Jr a b) r):=λP r s Q E G q=>
 Jd (h1.then G q λv d s1 r1 cv G1 T1 q1=>hZ T1 (h2.then G1 q1 λu d' s2 r2 cu G2 T2 q2=>mX (by
  refine aU λG9 k9=>?_
  obtain⟨e,q2⟩:=bc.dU q2
  obtain⟨e1,e2,e⟩:=cj e
  obtain⟨t,hv,hl⟩:=cv.fH e1
  obtain⟨u,hu⟩:=cu.cZ e2
  refine k9 ?_
  exact OO hv hu hl (yl (eh e)) λU tk hl=>⟨dT e▸.str _ _ hl,(T1.seq T2).seq (.push G2.wd _ tk),q2⟩))) λo r=>tR hv o r
theorem Ht{c H h n}{us:pZ ak}(it:us.size=n.toNat/\ ∀(j:av) v,us[j]?=some v-> ∃t,v=.int (0+(j:aL)*1) t):e8 c H h us.toList (cG 0 n):=⟨by simp[cG,it.1],λj v d e1 e2=>by
 obtain⟨t,mV⟩:=it.2 j v (by simpa using e1)
 refine aK mV ?_
 unfold cG at e2
 obtain⟨e3,e2⟩:=c9<|(bl ..).symm.trans e2
 obtain⟨h4,h5⟩:=aY.mp e3
 rw[nX]at h5
 refine aK h5 ?_
 cases e2
 rw[Ae]
 exact .int _ _⟩
set_option tactic.hygienic true in
theorem S.lT{n m:b9}{np xI pos pos2:jt}{e:aX}(O:F.c.Ok)(hp:cD e=true)(hn:n="list")(hm:m="range")(hk:gp F.au n=true)(hk2:gp F.au m=true)(h:SE F e x):
  SE F (.Call (.Name n np) [.Call (.Name m xI) [e] [] pos2] [] pos) (λδ r=>(x δ r).bind λv r=>bc.fG (v.cZ.bind λn=>gL (decide (-9999<=n)&&decide (n<=9999))<|.c<|cG 0 n) r):=λP r s Q E G q=>by
 subst hn hm
 refine cR<|fR O G hk xH.mem xH.ne xH.is<|jk rfl (G.wd.K O) (.inr<|.inl ⟨_,rfl⟩) ?_
 refine bP (da rfl)<|cR<|fR O G hk2 j9.mem j9.ne j9.is<|jk (by rw[bw,hp];rfl) (G.wd.K O) (.inr<|.inl ⟨_,rfl⟩) ?_
 refine bP (da hp)<|h.then G q λv d s1 r1 cv G1 T1 q1=>eu ⟨G1.wd.K O,?_⟩
 obtain⟨e,q1⟩:=bc.dU q1
 obtain⟨e1,e⟩:=bind_some e
 obtain⟨t,CG⟩:=cv.cZ e1
 refine aK CG ?_
 rename_i n
 have hn:=yl<|eh e
 have hz:=dT e
 clear e e1 cv
 subst hz
 refine NM<|eu ?_
 have T2:gc F r1 s1 _:=.push G1.wd {cls:=.type "range",data:=.fields #[.int 0 s1.toks,.int n t,.int 1<|s1.toks+1]} (s1.toks+1+1)
 have G2:=G1.kG T2
 refine⟨G2.wd.K O,?_⟩
 refine call_list_range (n:=n.toNat) G2.er.handled (ww ..) (Zt (by decide) (by decide) (by lia)<|bF (mD.right (by assumption)) (by decide)) (by rw[K6];exact up0) (by lia) λh' tk acc' c' k e' it=>?_
 have nv:Ay F.c P.H _ (.c<|cG 0 n) _ _:=Ay.of (tk:=tk) (bL _) e' k (Ht it) (by rw[Array.length_toList,it.1];lia)
 have:=yx (T1.seq T2) nv q1
 obtain⟨D,T,q⟩:=this
 exact⟨D.nB G.iu,T,q⟩
end
noncomputable def uz:Me->b9
 |.append=>"append"|.Tk=>"pop"|.reverse=>"reverse"|.qx=>"index"|.Ba=>"count"|.yb=>"rjust"|.join=>"join"|.vg=>"get"
structure Hu(n:b9)(v:ak)(s:af)(T id:String):Prop where
 plain:PlainAttrs T
 slot:Slot T n id
 typ:typeOf (.builtin id)=pure (.type "method_descriptor")
 is:s.TypeIs v T
 Xj: ∀a,v=.ref a-> ∃ob,s.heap.get? a=some ob/\ob.dict=none
inductive OP(F:Fx)(P:Pt)(m:Me)(v:ak)(x:DV)(s:af):Prop
 |mk {T id} (M:Hu (uz m) v s T id)
   (k: ∀s0 s2 r2 vs xs Q (E:aa av->Rw->Prop),Gd F P r2 s2->gc F r2 s0 s2->dm F.c P.H s2.heap v x->e8 F.c P.H s2.heap vs xs->(EG m x xs r2).wp Q E->wpAny F.M F.A (bS (.builtin id)<|v::vs) (PV F (VD F.c P.H) s0 Q) (λU U=>cC) s2)
set_option backward.match.sparseCases true in
theorem Az(l:az)(items:pZ ak)(x:ak)(f:ak->aM)(j:av)(hj:j<items.size)(hit:f items[j]=true)(hno: ∀m (hm:m<items.size),m<j->f items[m]=false):
  Meets (GG.«tuple.index» ⟨[.ref l,x],[]⟩)
   (λA R s=>IsTup s.heap l items/\(∀y,y∈items->x5 A.in1 s y x (f y))/\R (.ok<|.ret<|.int j s.toks) {s with toks:=s.toks+1}):=by
 intro prog w A R s h
 obtain⟨hp,g,d,tk,os⟩:=s;obtain⟨hl,he,h⟩:=h
 unfold GG.«tuple.index»
 refine ac<|aD ?_
 refine ac<|tupleItemsOf_ hl ?_
 refine ac (m:=(pure 0:xt av))<|aD ?_
 refine ac (m:=(pure items.size:xt av))<|aD ?_
 refine ac ?_
 rw[nS]
 refine aK (by simp[ny]:ny [0:min items.size items.size]=items.size) ?_
 refine(?_:wpAny (model prog w) A.in1 (forIn (Jj 0 items.size 1) ((none,()):ag nA×Ah) _) _ _ _)
 have go: ∀(k i:av),i+k=items.size->i<=j->wpAny (model prog w) A.in1 (forIn (Jj i k 1) ((none,()):ag nA×Ah) λ(i:av) (_:ag nA×Ah)=>
        (match items[i]? with
        |some y=>do
         let vL ←eqBool y x
         if vL=true then do
           let vL ←retInt (i:aL)
           pure (agU (some vL,()))
          else pure<|gm (none,())
        |_=>pure (gm (none,())):xt (Ny (ag nA×Ah))))
   (λr s'=> ∃v,r=(some<|.done<|.ret v,())/\R (.ok<|.ret v) s') (λe s'=>R (.error e) s') ⟨hp,g,d,tk,os⟩:=by
  intro k
  induction k with
  |zero=>intro i h1 h2;exact absurd (aI h2 hj)<|Nat.not_lt_of_le<|cX h1.symm
  |succ k ih=>
   intro i h1 h2
   have hi:i<items.size:=by clear he h ih;exact aI (by assumption) (by assumption)
   rw[List.range'_succ,iw]
   refine ac ?_
   refine aK (show items[i]?=some items[i]from oP hi) ?_
   refine ac<|he _ (Nz hi) prog w _ _ ?_
   by_cases q:i=j
   ·subst q
    refine aK (aJ hit) ?_
    refine ac ?_
    refine(?_:wpAny _ _ (do ret (←mkInt (i:aL))) _ _ _)
    refine ac<|SY<|aD<|aD<|aD ⟨_,rfl,h⟩
   ·have hlt:i<j:=Nat.lt_of_le_of_ne h2 q
    rw[aN (by rw[hno i hi hlt];exact im)]
    exact aD<|ih (i+1) (by clear he h ih;lia) hlt
 refine aq (go items.size 0 (kU _)<|bD _) (λr s' hr=>?_) λU U z=>z
 obtain⟨v,rfl,hr⟩:=hr
 exact aD hr
theorem Hv{A:eX}(h:A.units+20<cLine):A.in1.units<cLine:=aI (bV (by decide) _) h
section
variable{c:Cx}{A:eX}{H:az->Prop}{s:af}{r:Rw}{RE:ak->af->Prop}
inductive Z8(A:eX)(s:af)(u:ak)(vs:aa ak)(d:DV):Prop
 |mk (j:av) (e:d=.a j) (el: ∀y,y∈vs.toArray->x5 A s y u (mW y u)) (hj:j<vs.toArray.size) (hit:mW vs.toArray[j] u=true) (hno: ∀m (hm:m<vs.toArray.size),m<j->mW vs.toArray[m] u=false)
theorem EQ(hu:A.units<cLine)(cu:dm c H s.heap u x)(cs:e8 c H s.heap vs xs)(e:wC xs x=some d):Z8 A s u vs d:=by
 unfold wC at e
 by_cases h:(xs.all λy=>(cP y x).isSome)=true
 ·replace e:=((aJ h)).symm.trans e
  obtain⟨e1,e⟩:=c9 e
  cases e
  have J:=VQ hu cu cs h
  refine bN (List.findIdx?_eq_some_iff_getElem.mp e1) λh1 h9=>cK h9 λh2 h3=>?_
  have hl:=cs.cn
  refine⟨_,rfl,EO J,eG h1 hl.symm,?_,λm hm hj=>?_⟩
  ·exact((J.cx _ _ _ (aC<|eG h1 hl.symm)<|aC h1).1).trans h2
  ·have hm':m<xs.length:=eG hm hl
   exact((J.cx _ _ _ (aC hm)<|aC hm').1).trans<|Bool.eq_false_iff.mpr<|h3 m hj
 ·rw[aN h]at e;exact nn e
theorem Xk(hu:A.units<cLine)(cu:dm c H s.heap u x)(cs:e8 c H s.heap vs xs)(h:(xs.all λy=>(Hd x y).isSome)=true):A2 (λv y=>mW v u=(Hd x y==some true)/\x5 A s v u (mW v u)) vs xs:=⟨cs.cn,λi v y e1 e2=>by
 refine bN (bJ.mp<|aF.mp h y<|bG e2) λb hb=>?_
 have cv:=cs.cx i v y e1 e2
 rcases dC (show(cP y x).or _=some b from hb) with e|e
 ·have k:=CB hu cv cu e
  exact⟨k.val.trans<|vI hb,k.val▸k.eq⟩
 ·have e':=dI.mp<|eh e
  refine bN (bJ.mp e'.2) λzs ez=>?_
  cases JC cu e'.1
  obtain⟨CG,ho,_⟩:=cv.bW ez
  refine aK CG ?_
  exact⟨(show false=b from(dT e).symm).trans (vI hb),EqAt.list_none (IsList.of ho) hu⟩⟩
theorem LJ{vs:aa ak}{xs:aa DV}{f:ak->aM}{e:DV->aM}(x:A2 (λv d=>f v=e d) vs xs):vs.countP f=(xs.filter e).length:=by
 rw[←List.countP_eq_length_filter]
 induction xs generalizing vs with
 |nil=>cases x.Hg;rfl
 |cons d xs ih=>
  refine jK x.un λv ws h9=>n7 h9 λCy a r=>?_
  refine aK Cy ?_
  rw[Sz,Sz]
  exact aK a<|aK (ih r) rfl
theorem OQ(e:Js xs=some ls):xs=ls.map .d:=by
 induction xs generalizing ls with
 |nil=>cases e;rfl
 |cons x r ih=>
  obtain⟨e1,e2,e⟩:=cj e
  cases e
  rw[DV.Ju e1,ih e2];rfl
theorem OR{vs:aa ak}{ls:aa (aa av)}(D:e8 c H s.heap vs (ls.map .d)):StrsAre vs (ls.map br):=by
 induction ls generalizing vs with
 |nil=>cases D.Hg;exact .nil
 |cons l r ih=>
  obtain⟨v,ws,oS,a,b⟩:=D.un
  refine aK oS ?_
  obtain⟨t,ym,_⟩:=a.pk
  refine aK ym ?_
  exact .cons _ _<|ih b
theorem Hw: ∀ls:aa (aa av),Str.join (br []) (ls.map br)=br ls.flatten:=λls=>by
 induction ls with
 |nil=>rfl
 |cons l r ih=>cases r with
  |nil=>exact aE br (bI l).symm
  |cons k r=>
   refine(?_:br l++br []++Str.join (br []) ((k::r).map br)=_)
   rw[ih,tL,tL]
   exact aE (λl=>br<|l++(k::r).flatten)<|bI l
theorem TL{v xs ls t}(L:d4 c H s.heap v xs)(e:Js xs=some ls)(hz:ls.flatten.length<=9999):Op c A H (bS (.builtin "str.join") [.str (br []) t,v]) s (.d ls.flatten):=by
 obtain⟨mV,ho,_,_,cs⟩:=L
 refine aK mV ?_
 rw[OQ e]at cs
 refine join_list (ys:=ls.map br) (IsList.of ho) (OR cs) ?_ λt' k=>?_
 ·have:((ls.map br).map<|λx=>x.length).sum=ls.flatten.length:=by
   rw[dj,List.length_flatten]
   exact aE List.sum<|cr λl U=>dP l
  rw[this,dP]
  exact ao (cX (by simp))<|ao hz (by decide)
 ·refine aK (show Txt.join (br []) (ls.map br)=br ls.flatten from(StrLaws.glued_eq_join _ _).trans<|Hw ls) ?_
  exact⟨.str _ _ hz,.nE ..⟩
theorem Hx(h1:l.length<=99)(h2:n<=99):(j4 l n f).length<=9999:=by
 unfold j4
 rw[aP,iD]
 exact ao (cX<|NT ..)<|adP.mpr ⟨ao (xc.mpr h2) (by decide),ao h1 (by decide)⟩
theorem OS(hv:v=.str (br l) t)(hu:u=.int n t1)(hw:w=.str (br [f]) t2)(h1:l.length<=99/\0<=n/\n<=99):Op c A H (bS (.builtin "str.rjust") [v,u,w]) s (.d<|j4 l n f):=by
 subst hv hu hw
 have hz:=Hx (f:=f) h1.1 h1.2.2
 refine rjust_fill ?_ (by rw[dP];rfl) λt' k=>?_
 ·unfold PadOk fitsSsize adN
  have h2: ¬n< -(2^63):=by lia
  have h3: ¬n>=2^63:=vu.mpr<|bF (mD.right<|mD.right (by assumption)) (by decide)
  simp only[h2,h3,(q7.mpr (dD (by lia)): ¬n.toNat>GR),decide_false,Bool.or_self,Bool.not_false,Bool.and_self]
 ·have key:NR (br l) n ((br [f]).cps.getD 0 0)=br (j4 l n f):=by
   have:(NR (br l) n f).cps=(j4 l n f).toArray:=by
    apply Lh
    rw[rjustF_list,dP]
    rfl
   refine(?_:Str.mk (NR (br l) n f).cps=_)
   rw[this];rfl
  refine aK key ?_
  exact⟨.str _ _ hz,.nE ..⟩
theorem Xl(L:rY c H s.heap v xs)(hu:u=.str (br l) t)(e:some ((xs.lookup l).getD .f)=some z):Op c A H (bS (.builtin "dict.get") [v,u]) s z:=by
 obtain⟨mV,hm,d,_,_,hp⟩:=L
 refine aK mV ?_
 refine aK hu ?_
 cases e
 refine call_meetsIn Nq d.dictOf.typeIs F.entry_dict_get (F.args_dict_get_2 _ _) (meets_dict_get _ _ (xF _ _ _ _) hm) ⟨_,d.dictOf.mapOf,?_⟩
 rw[tN]
 cases e:xs.lookup l with
 |none=>rw[hp.none e];exact⟨.none,.nE ..⟩
 |some z=>obtain⟨v,e',D⟩:=hp.some e;rw[e'];exact⟨D,.nE ..⟩
theorem LK{vs:aa ak}{v:ak}:(vs++[v]).toArray.eraseIdxIfInBounds ((vs++[v]).toArray.size - 1)=vs.toArray:=by
 apply Lh
 simp[Array.eraseIdxIfInBounds,List.eraseIdx_append_of_length_le]
theorem Wd.Tk{d r a n us t}(W:Wd c (d::r) s)(ha:c.row=some a)(e:s.heap.get? a=some (eZ (us++[sJ d t]) n))(cs:e8 c (λU=>cC) s.heap us (r.reverse.map .a)){h'}(sb:bj a s.heap h'){n'}(e':h'.get? a=some (eZ us n'))(ht:a≠c.wE):
  Wd c r {s with heap:=h'}:=by
 refine n7 (W.row a ha) λh1 h2 U=>?_
 refine⟨?_,λb o q=>(sb.2 b λz=>?_).trans<|W.cV b o q,λb hb=>?_,W.wE.keep λb o q z=>(sb.2 b λy=>?_).trans q⟩
 ·obtain⟨h,t,q⟩:=W.same
  exact⟨h',t,by rw[q]⟩
 ·rw[z,h1]at q;exact nn q
 ·cases ha.symm.trans hb
  exact⟨h1,Ss h2,n',us,e',yg cs⟩
 ·subst y
  rcases z with z|z
  ·exact ht z
  ·rw[e]at q;cases q;exact yh rfl z
end
section
variable{F:Fx}{P:Pt}{r r1:Rw}{s s1:af}{E:aa av->Rw->Prop}{x:Dl->Rw->bc DV}{z:Dl->Rw->bc (aa DV)}
theorem TM(W:Wd c r s)(ha:c.row=some a):a≠c.wE:=λz=>by
 obtain⟨_,_,n,vs,e,_⟩:=W.row a ha
 obtain⟨ps,q,_⟩:=W.wE
 rw[z,q]at e
 exact absurd (aE Obj.cls<|am e) (by simp)
theorem Xm{Q:DV->Rw->Prop}(G:Gd F P (d::r) s)(T:gc F (d::r) s0 s)(ha:F.c.row=some a)(q:Q (.a d) r):wpAny F.M F.A (bS (.builtin "list.pop") [.ref a]) (PV F (VD F.c P.H) s0 Q) (λU U=>cC) s:=by
 refine aU λG9 k9=>?_
 obtain⟨h1,h2,n,vs,e,D⟩:=G.wd.row a ha
 refine k9 ?_
 rw[ph,mB]at D
 have hD: ∃us t,vs=us++[sJ d t]/\e8 F.c (λU=>cC) s.heap us (r.reverse.map .a):=by
  have D':=D.reverse
  rw[List.reverse_append]at D'
  refine aU λG9 k9=>?_
  obtain⟨v,ws,ev,cv,cs⟩:=A2.un D'
  refine k9 ?_
  obtain⟨t,rfl⟩:=cv.pk
  refine⟨ws.reverse,t,?_,by simpa using cs.reverse⟩
  refine aK (Ji vs).symm<|aK ev ?_
  rw[ph]
 obtain⟨us,t,rfl,cs⟩:=hD
 have hz:(us++[sJ d t]).toArray.size<=sizeLine:=by
  rw[bT]
  refine dD<|ao (cX D.cn) ?_
  simp at h2 ⊢
  exact ao (by assumption) (by decide)
 refine mP Eg ⟨_,e,rfl⟩ PySem.F.entry_list_pop (PySem.F.args_list_pop_1 _) (MeetsSeq.list_pop_last _ _ n (.int d t) (by simp) hz) ⟨e,?_⟩
 have sb:bj a s.heap (s.heap.update a<|gS λxs=>xs.eraseIdxIfInBounds<|(us++[sJ d t]).toArray.size - 1):=fC ..
 have e':(s.heap.update a<|gS λxs=>xs.eraseIdxIfInBounds<|(us++[sJ d t]).toArray.size - 1).get? a=some (eZ us (if us.toArray.size==(us++[sJ d t]).toArray.size then n else n+1)):=by
  refine aK (cI _ e (by rfl)) ?_
  simp only[gS,LK]
 exact⟨.int d t,T.seq ⟨G.wd.Tk ha e cs sb e'<|TM G.wd ha,.mG sb ⟨_,e'⟩<|.inl ha,⟨_,s.toks,rfl⟩⟩,q⟩
theorem Hy(L:d4 c H h v xs)(e:s.heap=h):s.TypeIs v "list"/\ ∀b,v=.ref b-> ∃ob,s.heap.get? b=some ob/\ob.dict=none:=by
 obtain⟨rfl,ho,_⟩:=L
 subst e
 exact⟨⟨_,ho,rfl⟩,λb z=>by cases z;exact⟨_,ho,rfl⟩⟩
theorem Hz{H:az->Prop}(hv:v=.str (br l) t)(hu:u=.int n t1)(hw:w=.str (br f) t2)
  (e:(match(generalizing:=false) f with|[]=>none|ch::f'=>gL (f'.isEmpty&&decide (l.length<=99)&&decide (0<=n)&&decide (n<=99)) (DV.d (j4 l n ch)))=some d):Op c A H (bS (.builtin "str.rjust") [v,u,w]) s d:=by
 cases f with
 |nil=>exact nn e
 |cons ch f=>
  have b:=eh e
  simp only[be,g0]at b
  cases f with
  |nil=>exact dT e▸OS hv hu hw ⟨b.1.1.2,b.1.2,b.2⟩
  |cons=>exact ff b.1.1.1
theorem r5{v x m T id}(M:Hu (uz m) v s T id)(hm:m≠.Tk)(k: ∀H (s:af) vs xs d,F.A.handled=none->F.A.units+20<cLine->dm F.c H s.heap v x->e8 F.c H s.heap vs xs->N7 m x xs=some d->Op F.c F.A H (bS (.builtin id)<|v::vs) s d):OP F P m v x s:=
 ⟨M,λs0 s2 r2 vs xs Q E G T cv cs q=>by
  have q:(bc.fG (N7 m x xs) r2).wp Q E:=by
   cases m with
   |Tk=>exact absurd rfl hm
   |_=>exact q
  obtain⟨e,q⟩:=bc.dU q
  exact xG T (k _ _ _ _ _ G.er.handled G.WX cv cs e) q⟩
theorem JH{v x m id}(G:Gd F P r s)(cv:dm F.c P.H s.heap v x)(h:x.bW.isSome=true)(hs:Slot "list" (uz m) id)(ht:typeOf (.builtin id)=pure (.type "method_descriptor")):Hu (uz m) v s "list" id:=by
 refine bN (bJ.mp h) λl hl=>?_
 have t:=Hy (s:=s) (cv.bW hl) rfl
 exact⟨l6,hs,ht,t.1,t.2⟩
theorem ac5{vs:aa ak}{p:ak->aM}{b:aM}{m:av}{hm:m<vs.toArray.size}(h:p vs.toArray[m]=b):p vs.toArray[m]=b:=h
theorem HA{c:Cx}{A:eX}{H:az->Prop}{v u ys x d}(hu:A.units+20<cLine)(L:d4 c H s.heap v ys)(cu:dm c H s.heap u x)(e:wC ys x=some d):Op c A H (bS (.builtin "list.index") [v,u]) s d:=by
 obtain⟨mV,ho,_,hl,cs⟩:=L
 refine aK mV ?_
 obtain⟨j,CL,el,hj,hit,hno⟩:=EQ (Hv hu) cu cs e
 refine aK CL ?_
 have hz:(j:aL)<2^63 - 1:=by
  have:j<9999+1:=eE hj (by rw[bT];exact fN hl)
  clear hj hit hno el e
  lia
 exact mP AZ ⟨_,ho,rfl⟩ PySem.F.entry_list_index (PySem.F.args_list_index_2 _ _) (list_indexAt _ _ _ none #[] u (λy=>mW y u) j hj hz hit hno) ⟨ho,el,.int _ _,.nE ..⟩
theorem LL{c:Cx}{A:eX}{H:az->Prop}{v u ys x d}(hu:A.units+20<cLine)(L:pj c H s.heap v ys)(cu:dm c H s.heap u x)(e:wC ys x=some d):Op c A H (bS (.builtin "tuple.index") [v,u]) s d:=by
 obtain⟨mV,ho,hc,hd,hx,_,hl,cs⟩:=L
 refine aK mV ?_
 obtain⟨j,CL,el,hj,hit,hno⟩:=EQ (Hv hu) cu cs e
 refine aK CL ?_
 exact mP Ak ⟨_,ho,hc⟩ PySem.F.entry_tuple_index (PySem.F.args_tuple_index_2 _ _) (Az _ _ u (λy=>mW y u) j hj hit hno) ⟨⟨_,ho,hc,_,hd⟩,el,.int _ _,.nE ..⟩
theorem HB{c:Cx}{A:eX}{H:az->Prop}{v u ys x d}(hu:A.units+20<cLine)(L:d4 c H s.heap v ys)(cu:dm c H s.heap u x)(e:gL (ys.all λy=>(Hd x y).isSome) (DV.a (ys.filter λy=>Hd x y==some true).length)=some d):Op c A H (bS (.builtin "list.count") [v,u]) s d:=by
 obtain @⟨_,_,us,rfl,ho,_,hl,cs⟩:=L
 have k:=Xk (Hv hu) cu cs<|eh e
 refine mP A4 ⟨_,ho,rfl⟩ PySem.F.entry_list_count (PySem.F.args_list_count_2 _ _) (list_countAt _ _ _ none #[] u (λy=>mW y u)) ⟨ho,λy hy=>?_,?_⟩
 ·refine bN (k.mem (by simpa using hy)) λU h9=>cK h9 λU z=>?_
  exact z.2
 ·refine⟨?_,.nE ..⟩
  refine aK (show us.toArray.toList=us from rfl)<|aK (LJ<|k.Tm λU U z=>z.1) ?_
  exact dT e▸.int _ _
theorem Xn{m v x}(O:F.c.Ok)(G:Gd F P r s)(cv:dm F.c P.H s.heap v x)(mk:N8 m x=true):OP F P m v x s:=by
 cases m with
 |yb=>
  obtain⟨l,hl⟩:=bJ.mp (show x.fH.isSome=true from mk)
  obtain⟨t,oS,_⟩:=cv.fH hl
  refine aK oS ?_
  refine r5 ⟨Ch,PySem.F.slot_str_rjust,PySem.F.type_str_rjust,typeIs_str s _ _,nofun⟩ nofun λH s vs xs d U U cv cs e=>?_
  cases xs with
  |nil=>exact nn e
  |cons y xs=>
   obtain⟨e1,e⟩:=pp e
   subst e1
   obtain⟨u,ws,rfl,cu,cs⟩:=cs.un
   obtain⟨w,rfl,cw⟩:=cs.jx
   obtain⟨e1,e⟩:=bind_some e
   obtain⟨e2,e3,e⟩:=cj e
   obtain⟨_,hv,_⟩:=cv.fH e1
   obtain⟨_,hu⟩:=cu.cZ e2
   obtain⟨_,hw,_⟩:=cw.fH e3
   exact Hz hv hu hw e
 |join=>
  obtain⟨l,hl⟩:=bJ.mp (show x.fH.isSome=true from mk)
  obtain⟨t,OG,_⟩:=cv.fH hl
  refine aK OG ?_
  refine r5 ⟨Ch,PySem.F.slot_str_join,PySem.F.type_str_join,typeIs_str s _ _,nofun⟩ nofun λH s vs xs d U U cv cs e=>?_
  refine n9 cs e λu U cu e=>?_
  obtain⟨e1,e2,e⟩:=cj e
  obtain⟨e3,e⟩:=bind_some e
  have b:=eh e
  simp only[be,g0]at b
  cases hl.symm.trans e1
  cases l with
  |nil=>exact dT e▸TL (cu.bW e2) e3 b.2
  |cons=>exact ff b.1.1
 |vg=>
  obtain⟨l,hl⟩:=bJ.mp (show x.dN.isSome=true from mk)
  obtain⟨Z9,hm,d,_,_,hp⟩:=cv.dN hl
  refine aK Z9 ?_
  refine r5 ⟨PySem.F.plainAttrs_dict,Nq,PySem.F.type_dict_get,d.dictOf.typeIs,λb z=>?_⟩ nofun λH s vs xs d U U cv cs e=>?_
  ·cases z
   obtain⟨o,es,e,hx,_⟩:=d
   exact⟨_,e,hx.2.1⟩
  ·refine n9 cs e λu U cu e=>?_
   obtain⟨e1,e2,e⟩:=cj e
   obtain⟨_,hu,_⟩:=cu.fH e2
   exact Xl (cv.dN e1) hu e
 |qx=>
  by_cases hx:x.bW.isSome=true
  ·refine r5 (JH G cv hx AZ PySem.F.type_list_index) nofun λH s vs xs d U hu cv cs e=>?_
   refine n9 cs e λu U cu e=>?_
   obtain⟨ys,hy⟩:=bJ.mp hx
   cases DV.po hy
   rcases dC (x:=wC ys _) (y:=none) e with e|e
   ·exact HA hu (cv.bW hy) cu e
   ·exact nn e
  ·have hx':x.eN.isSome=true:=(aZ.mp (show(x.bW.isSome||x.eN.isSome)=true from mk)).resolve_left hx
   obtain⟨ys,hy⟩:=bJ.mp hx'
   obtain⟨aaa,ho,hc,hd,hn,_⟩:=cv.eN hy
   refine aK aaa ?_
   refine r5 ⟨PySem.F.plainAttrs_tuple,Ak,PySem.F.type_tuple_index,⟨_,ho,hc⟩,λb z=>by cases z;exact⟨_,ho,hn⟩⟩ nofun λH s vs xs d U hu cv cs e=>?_
   refine n9 cs e λu U cu e=>?_
   cases DV.Bh hy
   rcases dC (x:=none) (y:=wC ys _) e with e|e
   ·exact nn e
   ·exact LL hu (cv.eN hy) cu e
 |Ba=>
  refine r5 (JH G cv mk A4 PySem.F.type_list_count) nofun λH s vs xs d U hu cv cs e=>?_
  refine n9 cs e λu U cu e=>?_
  obtain⟨e1,e⟩:=bind_some e
  exact HB hu (cv.bW e1) cu e
 |Tk=>
  obtain⟨u,hl⟩:=bJ.mp (show x.Cs.isSome=true from mk)
  cases DV.Jv hl
  obtain⟨a,aab,ha⟩:=cv.pk
  refine aK aab ?_
  obtain⟨_,_,n,vs,ho,_⟩:=G.wd.row a ha
  refine⟨⟨l6,Eg,PySem.F.type_list_pop,⟨_,ho,rfl⟩,λb z=>by cases z;exact⟨_,ho,rfl⟩⟩,λs0 s2 r2 vs xs Q E G T cv cs q=>?_⟩
  cases xs with
  |cons=>exact q.elim
  |nil=>
   cases cs.Hg
   cases r2 with
   |nil=>exact q.elim
   |cons d r2=>exact Xm G T ha q
 |append=>exact ff mk
 |reverse=>exact ff mk
noncomputable def mY(e:aX):Bool:=
 match e with
 |.Call f args _ _=>f.ctorIdx==23&& !args.isEmpty
 |_=>true
theorem gT{o}{x}{au}{w}(h:mY o=true):afQ o x au w=w:=by
 cases o with
 |Call f args kws p=>
  refine cK (dI.mp h) λh1 h2=>?_
  cases args with
  |nil=>exact ff h2
  |cons a as=>exact @qL (λf=>afQ (.Call f (a::as) kws p) x au w=w) f (eq_of_beq h1) λU U=>rfl
 |_=>rfl
theorem HC(hst:args.all cD=true)(hl:args.length<20):
  ((lR pos (gk args au)).all (λx=> !x.1)&&(S4 pos (Ed [] au)).all (λx=>x.1.isSome)
   &&decide (args.length+([]:aa YX).length+(if([]:aa YX).isEmpty then 0 else 1)<30))=true:=by
 have h1:(lR pos<|gk args au).all (λx=> !x.1)=true:=aF.mpr λx hx=>by
  have:=wz.mp (ms (pos:=pos) (au:=au) hst) x hx
  simpa using this
 refine aK h1<|aK (ab<|eE hl (by decide)) ?_
 rfl
theorem SE.aee(O:F.c.Ok)(hx:n=uz m)(ho:mY o=true)(hst:args.all cD=true)(hn:args.length<20)(hline:(apos.endLine==pos.line)=true)
  (h1:SE F o x) (h2:SL F pos args z):SE F (.Call (.Attribute o n apos) args [] pos) (λδ r=>(x δ r).bind λa r=>if N8 m a=true then(z δ r).bind λvs r=>EG m a vs r else .d):=λP r s Q E G q=>by
 refine aK hx ?_
 refine td (gT ho) (HC hst hn) hline rfl<|h1.then G q λv d s1 r1 cv G1 T1 q1=>?_
 by_cases mk:N8 m d=true
 ·replace q1:=(aJ mk)▸q1
  obtain⟨M,k⟩:=Xn (m:=m) O G1 cv mk
  refine⟨_,_,M.plain,M.slot,M.typ,M.is,M.Xj,jk hst (G1.wd.K O) (.inl ⟨_,rfl⟩) ?_⟩
  refine hZ T1<|h2.then G1 q1 λvs xs s2 r2 cs G2 T2 q2=>⟨G2.wd.K O,?_⟩
  exact aq (k s s2 r2 vs xs Q E G2 (T1.seq T2) (cv.g9<|G1.g9 T2) cs q2) (λU U p=>p) λU U z=>z.elim
 ·replace q1:=(aN mk)▸q1
  exact q1.elim
end
theorem A2.zip{α β κ:Type}{R:α->β->Prop}{ks:aa κ}{vs:aa α}{xs:aa β}(h:ks.length=vs.length)(x:A2 R vs xs):A2 (λp q=>p.1=q.1/\R p.2 q.2) (ks.zip vs) (ks.zip xs):=by
 induction ks generalizing vs xs with
 |nil=>exact .nil
 |cons k ks ih=>
  cases xs with
  |nil=>rw[x.Hg]at h;cases h
  |cons d xs=>
   refine jK x.un λv ws h9=>n7 h9 λCy a r=>?_
   subst Cy
   exact .cons ⟨rfl,a⟩<|ih (dc h) r
noncomputable def kg(pos:jt)(au:tx)(gP:aa (ag aX))(values:aa aX):aa (xt ak×xt ak):=
 (gP.zip values).filterMap λp=>p.1.map λk=>(eval k au,do let x ←eval p.2 au;jS pos;pure x)
theorem AA(h:gP.all (λx=>x.isSome)=true):
  (evalEachOpt gP au).zip ((evalEach values au).map λv=>do let x ←v;jS pos;pure x)=(kg pos au gP values).map λp=>(some p.1,p.2):=by
 induction gP generalizing values with
 |nil=>rfl
 |cons k ks ih=>
  rw[bw,be]at h
  cases values with
  |nil=>
   cases k with
   |none=>cases h.1
   |some k=>rfl
  |cons v vs=>
   cases k with
   |none=>cases h.1
   |some k=>exact aE _<|ih h.2
theorem yy:(kg pos au gP values).length<=gP.length:=
 ao (Ek ..) (ao (cX mC)<|rW ..)
section
variable{κ K:Type}[g8 K]
inductive VP(g:κ->K)(knd: ∀prog w,YY prog w K)(ks:aa κ)(c:Cx)(H:az->Prop)(s s':af)(vs:aa (ak×ak))(ds:aa DV):Prop
 |mk {ws} (hc:Carries (knd c.prog c.w) vs ((ks.zip ws).map λp=>(g p.1,p.2))) (hl:ks.length=ws.length) (hs:e8 c H s'.heap ws ds)
variable{g:κ->K}{knd: ∀prog w,YY prog w K}{ks:aa κ}{F:Fx}{P:Pt}{r r1:Rw}{s s1:af}{E:aa av->Rw->Prop}{x:Dl->Rw->bc DV}{z:Dl->Rw->bc (aa DV)}
theorem S.LM:S F (VP g knd []) (sD []) (λU r=>.c [] r):=λP r s Q E G q=>evalPairs_nil ⟨VP.mk (ws:=[]) trivial rfl .nil,.cm G.wd,q⟩
theorem S.HD(hk: ∀(s:af) (Q:ak->af->Prop) RE,(∀v,(knd F.c.prog F.c.w).is (g k) v=true->Q v {s with toks:=s.toks+1})->wpAny F.M F.A (eval ke F.au) Q RE s)
  (h1:SE F e x) (h2:S F (VP g knd ks) (sD rest) z):
  S F (VP g knd<|k::ks) (sD<|(eval ke F.au,do let x ←eval e F.au;jS pos;pure x)::rest) (λδ r=>(x δ r).bind λv r=>(z δ r).bind λvs r=>.c (v::vs) r):=λP r s Q E G q=>by
 refine evalPairs_cons<|hk _ _ _ λkv hkv=>?_
 have T0:=gc.nE (F:=F) G.wd<|s.toks+1
 refine ac<|hZ T0<|h1.then (G.kG T0) q λv d s1 r1 cv G1 T1 q1=>ac<|gq<|aD<|hZ (T0.seq T1)<|h2.then G1 q1 λvs ds s2 r2 p G2 T2 q2=>?_
 obtain⟨hc,hl,hs⟩:=p
 exact⟨VP.mk (ws:=v::_) ⟨hkv,rfl,hc⟩ (aE (λx=>x+1) hl)<|.cons (cv.g9<|G1.g9 T2) hs,(T0.seq T1).seq T2,q2⟩
theorem Gd.up{H':az->Prop}(G:Gd F P r s)(T:gc F r1 s s1)(l: ∀b,P.H b->H' b)(u:qR P.H H' s.heap)(iu: ∀b,H' b-> ∃o,s1.heap.get? b=some o):Gd F {P with H:=H'} r1 s1:=by
 have G1:=G.kG T
 have C:=G1.er
 exact⟨G1.wd,⟨C.frames,C.cE,λb m=>⟨l _ (C.apart b m).1,(C.apart b m).2⟩,C.depth,C.units,C.handled⟩,G1.ev,λb m=>⟨l _ (G1.ic b m).1,(G1.ic b m).2⟩,λb x=>l _ (G1.hx b x),iu,λi d e=>by
  obtain⟨v,q,D⟩:=G.nB i d e
  exact⟨v,q,D.aW (G.g9 T) u⟩⟩
theorem Gd.TN(G:Gd F P r s)(T:gc F r1 s s1)(e:s.heap.get? a=none)(e1: ∃o,s1.heap.get? a=some o):Gd F {P with H:=λb=>P.H b\/b=a} r1 s1:=
 G.up T (λU=>.inl) (λb q=>q.imp id λ(z:b=a)=>by rw[z];exact e) λb q=>by
  rcases q with q|rfl
  ·exact(G.kG T).iu b q
  ·exact e1
theorem gc.TP(W:Wd F.c r s)(T:gc F r1 s s1)(hn:s.heap.get? a=none)(sb:bj a s1.heap h')(ho:s1.heap.get? a=some o)(hc: ¬eJ o)(ha: ∃o,h'.get? a=some o):gc F r1 s {s1 with heap:=h',toks:=tk}:=
 ⟨T.wd.mG sb ho hc (W.gb hn)<|W.uu hn,T.kp.trans (Kp.mG (X:=(λx=>x=a)) sb ha rfl) λx e=>.inr<|e▸hn,df T.same ⟨_,_,rfl⟩⟩
theorem S.VU{gP:aa (ag aX)}{values:aa aX}{pos:jt}{f:aa DV->Rw->bc DV}{Q:DV->Rw->Prop}{R:ak->af->Prop}(hk:gP.all (λx=>x.isSome)=true)(hne:kg pos F.au gP values≠[])(hn:gP.length<=15)(hnd:(ks.map g).Nodup)
  (h:S F (VP g knd ks) (sD<|kg pos F.au gP values) z) (G:Gd F P r s) (q:((z P.δ r).bind f).wp Q E)
  (k: ∀ws ds (s1:af) h' tk r1,(f ds r1).wp Q E->j7 F.c (HL P.H [s.heap.objs.size]) h' (ks.zip ws) (ks.zip ds)->ks.length=ws.length->h'.DictOf (knd F.c.prog F.c.w) s.heap.objs.size ((ks.zip ws).map λp=>(g p.1,p.2))->gc F r1 s {s1 with heap:=h',toks:=tk}->R (.ref s.heap.objs.size) {s1 with heap:=h',toks:=tk}):
  wpAny F.M F.A (eval (.Dict gP values pos) F.au) R (PX F s E) s:=by
 have e0:(s.heap.push {cls:=.type "dict",data:=.dict #[]}).get? s.heap.objs.size=some {cls:=.type "dict",data:=.dict #[]}:=aR _ rfl
 have T0:gc F r s {s with heap:=s.heap.push {cls:=.type "dict",data:=.dict #[]}}:=.push G.wd _ s.toks
 refine wpAny_Dict_pairs (knd:=knd F.c.prog F.c.w) (AA hk) hne (ao yy hn)<|hZ T0<|h.then (G.TN T0 (bL _) ⟨_,e0⟩) q λvs ds s1 r1 p G1 T1 q1=>?_
 obtain⟨hc,hl,hs⟩:=p
 rename_i ws
 have ha:s1.heap.get? s.heap.objs.size=some {cls:=.type "dict",data:=.dict #[]}:=T1.kp.pq _ _ e0 (G.wd.uu<|bL _) λm=>by
  obtain⟨o,e,_⟩:=jL G.er.cE m
  rw[bL]at e;exact nn e
 refine⟨_,hc,(pa s.heap).at λo e=>by rw[e0]at e;cases e;exact ha,λh' d sb=>?_⟩
 rw[merged_nil_of_nodup _ (by rw[dj];show((ks.zip ws).map<|g∘ Prod.fst).Nodup;rw[←dj,Sv<|cX hl];exact hnd)]at d
 have hd: ∃o,h'.get? s.heap.objs.size=some o:=by
  obtain⟨o,_,_,e,_⟩:=id d
  exact⟨o,e⟩
 exact k ws ds s1 h' _ r1 q1 (A2.zip hl<|hs.aW (λb o e n=>(sb.2 b λz=>n<|.inr z).trans e)<|.f9 λb q=>q.imp id bh.mp) hl d<|.TP G.wd (T0.seq T1) (bL _) sb ha (ut rfl) hd
end
section
variable{F:Fx}{P:Pt}{r r1:Rw}{s s1:af}{E:aa av->Rw->Prop}{x:Dl->Rw->bc DV}{z:Dl->Rw->bc (aa DV)}
noncomputable abbrev kS:=@eQ
noncomputable abbrev kI:=@gN
theorem LN{ks:aa (aa av)}(h:ks.Nodup):(ks.map br).Nodup:=gK.mpr<|h.imp λn e=>n<|og.mp e
theorem CM{Q:DV->Rw->Prop}(e:s.heap.get? a=none)(D:ii F.c (HL P.H [a]) s1.heap (.ref a) d [a])(T:gc F r1 s s1)(q:Q d r1):PV F (VO F.c P.H) s Q (.ref a) s1:=
 ⟨⟨_,D,λb m=>by cases bh.mp m;exact e⟩,T,q⟩
theorem ER{α:Type}{ks:aa α}{ws:aa ak}{ds:aa DV}{n m:av}{d d':DV}(e:gL (decide (ks.length<=n)&&decide (ds.length=ks.length)) d'=some d)(h:n<=m):(ks.zip ws).length<=m:=
 ao (ao (cX mC)<|rW ..) (ao (yl<|eh e).1 h)
theorem S.Bf{ks:aa (aa av)}{gP:aa (ag aX)}{values:aa aX}{pos:jt}(O:F.c.Ok)(hk:gP.all (λx=>x.isSome)=true)(hne:kg pos F.au gP values≠[])(hn:gP.length<=15)(hnd:ks.Nodup)
  (h:S F (VP br kS ks) (sD<|kg pos F.au gP values) z):
  S F VO (eval (.Dict gP values pos) F.au) (λδ r=>(z δ r).bind λvs r=>bc.fG (gL (decide (ks.length<=99)&&decide (vs.length=ks.length))<|.h<|ks.zip vs) r):=λP r s Q E G q=>
 S.VU hk hne hn (LN hnd) h G q λws ds s1 h' tk r1 q1 D hl d T=>by
  obtain⟨e,q1⟩:=bc.dU q1
  obtain⟨ep,d⟩:=d.dictAt
  exact CM (bL _) (dT e▸tP.mk rfl rfl (G.wd.vH O) d (ER e<|bK _) D) T q1
theorem S.Bg{ks:aa aL}{gP:aa (ag aX)}{values:aa aX}{pos:jt}(O:F.c.Ok)(hk:gP.all (λx=>x.isSome)=true)(hne:kg pos F.au gP values≠[])(hn:gP.length<=15)(hnd:ks.Nodup)
  (h:S F (VP id kI ks) (sD<|kg pos F.au gP values) z):
  S F VO (eval (.Dict gP values pos) F.au) (λδ r=>(z δ r).bind λvs r=>bc.fG (gL (decide (ks.length<=99)&&decide (vs.length=ks.length))<|.o<|ks.zip vs) r):=λP r s Q E G q=>
 S.VU hk hne hn (by rw[f6];exact hnd) h G q λws ds s1 h' tk r1 q1 D hl d T=>by
  obtain⟨e,q1⟩:=bc.dU q1
  rw[show((ks.zip ws).map λp=>(id p.1,p.2))=ks.zip ws from f6 _]at d
  exact CM (bL _) (dT e▸yw.mk rfl rfl (G.wd.vH O) d (ER e (by decide)) D) T q1
theorem S.aac(O:F.c.Ok):S F VO (eval (.Dict [] [] pos) F.au) (λU r=>.c (.h []) r):=λP r s Q E G q=>by
 refine bN ((pa s.heap:Heap.DictOf (eQ F.c.prog F.c.w) _ _ []).dictAt) λep d=>?_
 exact Zr<|CM (d:=.h []) (bL _) (tP.mk (kvs:=[]) rfl rfl (G.wd.vH O) d (bD _) .nil) (.push G.wd _ s.toks) q
theorem S.Xo(O:F.c.Ok):S F VO (eval (.Dict [] [] pos) F.au) (λU r=>.c (.o []) r):=λP r s Q E G q=>
 Zr (CM (d:=.o []) (bL _) (yw.mk (kvs:=[]) rfl rfl (G.wd.vH O) (pa s.heap) (bD _) .nil) (.push G.wd _ s.toks) q)
theorem aef(l:aa av)(hn:n=br l)(s:af)(Q:ak->af->Prop) RE(h: ∀v,(kS F.c.prog F.c.w).is (br l) v=true->Q v {s with toks:=s.toks+1}):wpAny F.M F.A (eval (.Constant (.str n) k cp) F.au) Q RE s:=by
 subst hn
 exact s9<|h _<|bH<|br l
theorem aeg(i:aL)(s:af)(Q:ak->af->Prop) RE(h: ∀v,(kI F.c.prog F.c.w).is (id i) v=true->Q v {s with toks:=s.toks+1}):wpAny F.M F.A (eval (.Constant (.int i) k cp) F.au) Q RE s:=
 SY (h _ (by simp[gN,GY]))
end
theorem JI(hf:f<=5)(hg:g<=5)(h:aO f=aO g):f=g:=by
 have: ∀f≤5,∀g≤5,aO f=aO g->f=g:=by decide
 exact this f hf g hg h
theorem TQ{h:cy}{a:az}{cl:ak}{d:ag az}{es:pZ Nr}{ep:av}{sl:pZ (ag ak)}{m:b9->ag ak}{n:av}{name:b9}{v:ak}{hs:aL}{tk:Tok}(ho:h.get? a=some ⟨cl,d,.dict es ep,sl⟩)
  (hk:YV es) (hm: ∀name,xY es name=m name) (hz:es.size<=n):
  ∃es' Xd,(h.update a<|ack name hs (.str name tk) v).get? a=some ⟨cl,d,.dict es' Xd,sl⟩/\YV es'/\(∀x,xY es' x=if x=name then some v else m x)/\es'.size<=(if(m name).isSome=true then n else n+1):=by
 cases hi:es.findIdx? (λx=>x.key.isStr name) with
 |some i=>
  refine⟨es.modify i λe=>{e with val:=v},ep,?_,hk.modify _ _,λx=>?_,?_⟩
  ·rw[cI _ ho (by simp only[tr,oM,hi];rfl)]
   simp only[tr,oM,hi]
  ·rw[←hm];exact findBy_modify (λn v=>v.isStr n) Value.isStr_inj es name x v i hi
  ·rw[←hm]
   have:(xY es name).isSome=true:=by
    unfold xY findBy
    have:=ul.mp hi
    refine bN this λh1 h9=>cK h9 λh2 U=>?_
    rw[Lc,Lg]
    exact⟨_,Nz h1,h2⟩
   refine aK (aJ this) ?_
   rw[Array.size_modify]
   exact hz
 |none=>
  refine⟨es.push ⟨hs,.str name tk,v⟩,ep+1,?_,hk.push _ _ _ _,λx=>?_,?_⟩
  ·rw[cI _ ho (by simp only[tr,oM,hi];rfl)]
   simp only[tr,oM,hi]
  ·rw[←hm]
   exact findBy_push (λn v=>v.isStr n) es name x _ _ v (λy=>by
    refine(?_:(name==y)=decide (y=name))
    by_cases h:y=name
    ·subst h;simp
    ·have: ¬name=y:=λe=>h e.symm
     simp[h,this]) hi
  ·rw[←hm]
   have: ¬(xY es name).isSome=true:=by
    unfold xY findBy
    rw[Lc,Lg]
    rintro⟨e,h1,h2⟩
    replace hi:=((Array.findIdx?_eq_none_iff)).mp hi
    have:=hi e h1
    rw[show e.key.isStr name=true from h2]at this;cases this
   refine aK (aN this) ?_
   rw[Array.size_push]
   lia
theorem JJ{M:Model}{A:eX}{E:ak->af->Prop}{s:af}{a:az}{m:b9->ag ak}{n:av}{name:b9}{v:ak}{Q:Ah->af->Prop}(hn:j6 s.heap a m n)(hz:n<=9999)
  (h: ∀h',j6 h' a (λx=>if x=name then some v else m x) (if(m name).isSome=true then n else n+1)->bj a s.heap h'->Q () {s with heap:=h',toks:=s.toks+1}):
  wpAny M A (do nsSet a name v;mN a (some<|.str name 0)) Q E s:=by
 refine aU λG9 k9=>?_
 obtain⟨o,es,ep,ho,hd,hk,hm,hz',hx⟩:=hn
 refine k9 ?_
 refine ac ?_
 unfold nsSet
 have hany:(!es.any (λx=>x.key.isStr name)&&es.any (λx=>x.refKey))=false:=by
  have:es.any (λx=>x.refKey)=false:=by
   rw[Array.any_eq_false'];intro e he;obtain⟨n,t,h⟩:=hk e he;simp[G4,h]
  refine aK this ?_
  rw[n6]
 refine ac<|ac<|Zq<|aD<|ac<|s9<|ac<|GO ho ?_
 refine aK hd ?_
 dsimp only
 rw[aRefKeyMayBeTheName_at,hany]
 refine wpAny_updatePart ho ?_
 refine aU λG9 k9=>?_
 obtain⟨cl,d,dt,sl⟩:=o
 refine k9 ?_
 subst hd
 have fin: ∀hs:aL,wpAny M A (mN a<|some<|.str name 0) Q E {s with heap:=s.heap.update a<|ack name hs (.str name s.toks) v,toks:=s.toks+1}:=λhs=>by
  refine aU λG9 k9=>?_
  obtain⟨es',Xd,k1,k2,k3,k4⟩:=TQ (v:=v) (hs:=hs) (tk:=s.toks) ho hk hm hz'
  refine k9 ?_
  refine wpAny_lookBehind k1 (pastItsLine_dict<|fN<|dD (by split at k4<;>lia)) ?_
  exact h _ ⟨_,es',Xd,k1,rfl,k2,k3,k4,hx⟩<|fC ..
 exact fin _
section
variable{c:Cx}{A:eX}{H:az->Prop}{s:af}{r:Rw}{RE:ak->af->Prop}
theorem uA{s}{l}{items}{n}{k}{t}{v}{Q:Ah->af->Prop}(ho:s.heap.get? l=some {cls:=.type "list",data:=.seq items n})(h0:0<=k)(hfit:k<2^63)(hn:k<items.size)
  (hQ:Q () {s with heap:=s.heap.update l (gS<|λx=>x.setIfInBounds k.toNat v)}):wpAny (model c.prog c.w) A (wv (.ref l) (.int k t) v) Q RE s:=by
 have hl:s.heap.IsList l items:=⟨_,ho,rfl,n,rfl⟩
 obtain⟨o,ho2,hc,ne,hd⟩:=id hl
 rw[ho]at ho2
 unfold wv
 try with_reducible refine dA ?_
 first|refine ac (aD ?_)|skip
 refine ac<|wpAny_sequenceKey hl.typeIs (by decide) ?_
 refine ac (lh (name:=nK "__setitem__") hl.typeIs YQ
  (mM YQ hl.typeIs entry_list_setitem ?_ (args_list_setitem _ _ _)))
 refine(?_:wpAny _ _ (acn (.int k t)>>=_) _ _ s)
 refine ac<|wpAny_listSubscript_int (fitsIndex_of h0 hfit) ?_
 clear hfit
 obtain⟨j,rfl⟩:=kC h0
 have hj:j<items.size:=by lia
 have hx':items[j]?=some items[j]:=oP hj
 refine(?_:wpAny _ _ ((seqItemAt l j>>=λr=>pure<|r.map (j,·))>>=_) _ _ s)
 refine ac<|ac<|wpAny_seqItemAt ho rfl<|aD ?_
 refine aK hx' ?_
 refine(?_:wpAny _ _ (setSeqItemAt l j v>>=_) _ _ s)
 refine ac<|wpAny_setSeqItemAt ho rfl ?_
 exact aD ⟨.none,rfl,aD hQ⟩
theorem yz{K:Type}[g8 K]{k:K}{w v:ak}{r:aa (K×ak)}(hn:((k,w)::r).Pairwise λa b=>a.1≠b.1):kF ((k,w)::r) k v=(k,v)::r:=by
 unfold kF
 refine aK (aJ (by simp)) ?_
 rw[dK]
 refine aK (aJ rfl) ?_
 congr 1
 conv=>rhs;rw[←f6 r]
 exact cr λp hp=>aN λe=>((ve.mp hn).1) p hp e.symm
theorem yA{K:Type}[g8 K]{k k':K}{w v:ak}{r:aa (K×ak)}(hn:k'≠k):kF ((k',w)::r) k v=(k',w)::kF r k v:=by
 unfold kF
 rw[f7]
 refine aK (show decide (k'=k)=false by simpa using hn) ?_
 rw[El]
 split
 ·rw[dK]
  exact aK (aN hn) rfl
 ·rfl
theorem qd{prog:pg}{w:World}{K:Type}[g8 K]{knd:YY prog w K}{h:cy}{a:az}{kvs:aa (K×ak)}(d:h.DictOf knd a kvs):(kvs.map<|λx=>x.1).Nodup:=by
 refine A9 d λU U U h9=>an6 h9 λU U U U U hn=>?_
 exact hn
theorem vM{κ:Type}[g8 κ]{α:Type}{f:κ}{v:α}{p:κ×α}{r:aa (κ×α)}:qQ f v (p::r)=if p.1=f then(f,v)::r else p::qQ f v r:=rfl
theorem j7.HE{κ K:Type}[g8 κ][g8 K]{g:κ->K}(hg: ∀a b,g a=g b->a=b){h:cy}{kvs:aa (κ×ak)}{es:aa (κ×DV)}(x:j7 c H h kvs es)(hn:((kvs.map λp=>(g p.1,p.2)).map<|λx=>x.1).Nodup){k:κ}{v:ak}{d:DV}(cv:dm c H h v d):
  ∃kvs',kF (kvs.map λp=>(g p.1,p.2)) (g k) v=kvs'.map (λp=>(g p.1,p.2))/\j7 c H h kvs' (qQ k d es)/\kvs'.length<=kvs.length+1:=by
 induction es generalizing kvs with
 |nil=>
  cases x.Hg
  exact⟨[(k,v)],rfl,.cons ⟨rfl,cv⟩ .nil,bK _⟩
 |cons q es ih=>
  refine jK x.un λp ws h9=>n7 h9 λCy a r=>?_
  subst Cy
  by_cases e:p.1=k
  ·refine⟨(k,v)::ws,?_,?_,Ad _⟩
   ·subst e
    exact yz<|gK.mp hn
   ·refine aK vM<|aK (aJ<|a.1.symm.trans e) ?_
    exact .cons ⟨rfl,cv⟩ r
  ·refine bN (ih r (bB.mp hn).2) λkvs' h9=>n7 h9 λe1 e2 e3=>?_
   refine⟨p::kvs',?_,?_,fy e3⟩
   ·exact(yA λz=>e<|hg _ _ z).trans<|aE _ e1
   ·refine aK vM<|aK (aN λz=>e<|a.1.trans z) ?_
    exact .cons a e2
inductive TR(c:Cx)(H:az->Prop)(s:af)(v:ak)(d:DV)(L:aa az)(s':af):Prop
 |mk {a} (e:v=.ref a) (eL:L=[a]) (D:ii c H s'.heap v d L) (sb:bj a s.heap s'.heap) (hc: ∃o,s.heap.get? a=some o/\ ¬eJ o) (same: ∃h tk,s'={s with heap:=h,toks:=tk})
theorem HF{v i u:ak}{xs:aa DV}{L k t d}(hH: ∀b∈L,H b)(D:iy c H s.heap v xs L)(hi:i=.int k t)(cu:dm c H s.heap u d)(h0:0<=k)(h1:k<xs.length):
  wpAny (model c.prog c.w) A (wv v i u) (λU s'=>TR c H s v (.c<|xs.set k.toNat d) L s') RE s:=by
 obtain @⟨a,n,vs,rfl,rfl,ho,hl,hs⟩:=D
 subst hi
 have hk:k<vs.toArray.size:=by rw[bT,hs.cn];exact h1
 refine uA ho h0 (bd (bd h1<|dM.mpr<|hs.cn▸hl) (by decide)) hk ?_
 have sb:bj a s.heap (s.heap.update a<|gS<|λx=>x.setIfInBounds k.toNat u):=fC ..
 have e':(s.heap.update a<|gS<|λx=>x.setIfInBounds k.toNat u).get? a=some (eZ (vs.set k.toNat u) n):=by
  refine aK (cI _ ho (by rfl)) ?_
  simp[gS]
 have kf:mF H s.heap (s.heap.update a<|gS<|λx=>x.setIfInBounds k.toNat u):=λb o e n=>(sb.2 b λz=>n<|z▸hH a (.head _)).trans e
 exact⟨rfl,rfl,iy.mk rfl rfl e' (by rw[dn];exact hl)<|(hs.g9 kf).set (cu.g9 kf) _,sb,⟨_,ho,yh rfl⟩,⟨_,s.toks,rfl⟩⟩
theorem ES{v i u:ak}{es L l t d}(hH: ∀b∈L,H b)(D:tP c H s.heap v es L)(hi:i=.str (br l) t)(cu:dm c H s.heap u d)(hz:es.length<=98):
  wpAny (model c.prog c.w) A (wv v i u) (λU s'=>TR c H s v (.h<|qQ l d es) L s') RE s:=by
 obtain @⟨a,ep,kvs,rfl,rfl,hm,hd,hl,hs⟩:=D
 subst hi
 have hd:=hd.dictOf
 refine Vx (knd:=eQ c.prog c.w) (k:=br l) (bH<|br l) hd (λh' d' sb=>?_) (by rw[aw];exact ao hl (by decide))
 refine aU λG9 k9=>?_
 obtain⟨o,_,_,eo,hx,hc,_⟩:=id hd
 have kf:mF H s.heap h':=λb o e n=>(sb.2 b λz=>n<|z▸hH a (.head _)).trans e
 obtain⟨kvs',e1,e2,e3⟩:=j7.HE (λU U z=>og.mp z) (j7.aW kf (qR.cm _ _) hs) (qd hd) (k:=l)<|cu.g9 kf
 refine k9 ?_
 rw[e1]at d'
 obtain⟨Xd,d2⟩:=d'.dictAt
 exact⟨rfl,rfl,tP.mk rfl rfl hm d2 (ao e3<|fy<|hs.cn▸hz) e2,sb,⟨o,eo,ut hc⟩,⟨_,_,rfl⟩⟩
theorem ET{v i u:ak}{es L k t d}(hH: ∀b∈L,H b)(D:yw c H s.heap v es L)(hi:i=.int k t)(cu:dm c H s.heap u d)(hz:es.length<=9998):
  wpAny (model c.prog c.w) A (wv v i u) (λU s'=>TR c H s v (.o<|qQ k d es) L s') RE s:=by
 obtain @⟨a,kvs,rfl,rfl,hm,hd,hl,hs⟩:=D
 subst hi
 have hz':kvs.length<=9998:=hs.cn▸hz
 refine Vx (knd:=gN c.prog c.w) (k:=k) (by simp[gN,GY]) hd (λh' d' sb=>?_)<|ao hl (by decide)
 refine aU λG9 k9=>?_
 obtain⟨o,_,_,eo,hx,hc,_⟩:=id hd
 refine k9 ?_
 have kf:mF H s.heap h':=λb o e n=>(sb.2 b λz=>n<|z▸hH a (.head _)).trans e
 have nd:=qd hd
 rw[←f6 kvs]at nd
 refine aU λG9 k9=>?_
 obtain⟨kvs',e1,e2,e3⟩:=j7.HE (g:=id) (λU U z=>z) (j7.aW kf (qR.cm _ _) hs) nd (k:=k)<|cu.g9 kf
 refine k9 ?_
 rw[show(kvs.map λp=>(id p.1,p.2))=kvs from f6 _,show(kvs'.map λp=>(id p.1,p.2))=kvs' from f6 _]at e1
 rw[show kF kvs k u=kvs' from e1]at d'
 exact⟨rfl,rfl,yw.mk rfl rfl hm d' (ao e3<|fy hz') e2,sb,⟨o,eo,ut hc⟩,⟨_,_,rfl⟩⟩
theorem OT(hH: ∀b∈L,H b)(D:ii c H s.heap v x L)(ci:dm c H s.heap i y)(cu:dm c H s.heap u z)(e:oR x y z=some d'):
  wpAny (model c.prog c.w) A (wv v i u) (λU s'=>TR c H s v d' L s') RE s:=by
 rcases dC e with e|e
 ·obtain⟨e1,e2,e3⟩:=cj e
  cases DV.po e1
  obtain⟨t,hi⟩:=ci.cZ e2
  have b:=yl<|eh e3
  exact dT e3▸HF hH D hi cu b.1 b.2
 rcases dC e with e|e
 ·obtain⟨e1,e2,e3⟩:=cj e
  cases DV.Bk e1
  obtain⟨t,hi,_⟩:=ci.fH e2
  exact dT e3▸ES hH D hi cu (ah<|eh e3)
 ·obtain⟨e1,e2,e3⟩:=cj e
  cases DV.Bl e1
  obtain⟨t,hi⟩:=ci.cZ e2
  exact dT e3▸ET hH D hi cu (ah<|eh e3)
theorem vN(hH: ∀b∈L,H b)(D:iy c H s.heap v xs L)(cu:dm c H s.heap u d)(hz:xs.length<9999):
  wpAny (model c.prog c.w) A (bS (.builtin "list.append") [v,u]) (λw s'=>w=.none/\TR c H s v (.c<|xs++[d]) L s') (λU U=>cC) s:=by
 obtain @⟨a,n,vs,rfl,rfl,ho,hl,hs⟩:=D
 refine wpAny_list_append_plain ⟨n,ho⟩ (λh' e' sb=>?_)<|dD (by rw[bT];exact ao hl (by decide))
 refine bN e' λn' e'=>?_
 have kf:mF H s.heap h':=λb o e n=>(sb.2 b λz=>n<|z▸hH a (.head _)).trans e
 refine⟨rfl,rfl,rfl,iy.mk (vs:=vs++[u]) (n:=n') rfl rfl (by simpa using e') ?_<|(hs.g9 kf).ZK<|cu.g9 kf,sb,⟨_,ho,yh rfl⟩,⟨_,s.toks,rfl⟩⟩
 rw[aP]
 refine aK hs.cn ?_
 exact hz
theorem HG(hH: ∀b∈L,H b)(D:iy c H s.heap v xs L):
  wpAny (model c.prog c.w) A (bS (.builtin "list.reverse") [v]) (λw s'=>w=.none/\TR c H s v (.c xs.reverse) L s') (λU U=>cC) s:=by
 obtain @⟨a,n,vs,rfl,rfl,ho,hl,hs⟩:=D
 refine mP Sq ⟨_,ho,rfl⟩ F.entry_list_reverse (F.args_list_reverse_1 _) (agS _ _ n<|dD (by rw[bT];exact ao hl (by decide))) ⟨ho,?_⟩
 have sb:bj a s.heap (s.heap.update a<|gS λx=>x.reverse):=fC ..
 have e':(s.heap.update a<|gS λx=>x.reverse).get? a=some (eZ vs.reverse n):=by
  refine aK (cI _ ho (by rfl)) ?_
  simp[gS]
 exact⟨rfl,rfl,rfl,iy.mk rfl rfl e' (by rw[mR];exact hl) (hs.g9<|λb o e n=>(sb.2 b λz=>n<|z▸hH a (.head _)).trans e).reverse,sb,⟨_,ho,yh rfl⟩,⟨_,s.toks,rfl⟩⟩
theorem yB{Q:Ah->af->Prop}(O:c.Ok)(W:Wd c r s)(hx:s.heap.get? a=some (iF (c.cls k) dx))(hk:k<=2)(ho:j6 s.heap dx m n)(hz:n<=99)(hf:f<=4)
  (q: ∀h' tk,j6 h' dx (λx=>if x=br (aO f) then some u else m x) (if(m<|br<|aO f).isSome=true then n else n+1)->bj dx s.heap h'->Q () {s with heap:=h',toks:=tk}):
  wpAny (model c.prog c.w) A (setAttr (.ref a) (br<|aO f) u) Q RE s:=by
 have C:=O.Hm hk
 refine A9 (id ho) λod es ep h9=>cK h9 λhd U=>?_
 have I:WJ s.heap a (iF (c.cls k) dx) (c.cls k) (some od):=⟨hx,rfl,rfl,hd⟩
 refine bN (any_some C.dict) λcd h9=>cK h9 λhc hd'=>?_
 have K2:=(W.gr<|.nE s<|s.toks+1).K O
 refine set_plain (W.K O) I C.set ?_
 refine osa_open (r:=none) K2 I C.ad2 (C.fld f hf).2 λb=>?_
 refine ac<|aD<|ac<|ac<|GO hx<|ac<|(S6 K2 hc).here ?_
 refine aK hd' ?_
 refine aD (a:=some dx)<|ac<|aD ?_
 show wpAny _ _ (do nsSet dx (br<|aO f) u;mN dx (some<|.str (br<|aO f) 0);ret .none) _ _ _
 have e:(do nsSet dx (br<|aO f) u;mN dx (some<|.str (br<|aO f) 0);ret .none:xt nA)=((do nsSet dx (br<|aO f) u;mN dx (some<|.str (br<|aO f) 0))>>=λU=>ret .none):=by rw[bind_assoc]
 refine aK e ?_
 exact ac<|JJ (s:={s with toks:=s.toks+1}) ho (ao hz (by decide)) λh' o' sb=>aD<|q h' _ o' sb
end
structure Cl(F:Fx)(H:az->Prop)(r:Rw)(s:af):Prop where
 wd:Wd F.c r s
 er:VJ F H s
 hx: ∀b,Xe F.c b->H b
 iu: ∀b,H b-> ∃o,s.heap.get? b=some o
def Xp(F:Fx)(s:af)(E:aa av->Rw->Prop)(K:ak->af->Prop)(r:tq)(s':af):Prop:=
 match r with
 |.error e=>PX F s E e s'
 |.ok f=> ∃v,f=.ret v/\K v s'
abbrev Dk:=Cx->(az->Prop)->af->af->ak->DV->Prop
def mZ(c:Cx)(r6:av)(fv:ak)(D:Dk)(g:aa DV->Rw->bc DV):Prop:=
 ∀(F:Fx) H r s vs xs Q E,F.c=c->r6<=F.lv->Cl F H r s->e8 F.c H s.heap vs xs->(g xs r).wp Q E->cW F.M F.A (.call fv ⟨vs,[]⟩) (Xp F s E<|PV F (D F.c H) s Q) s
def LO(D:Dk):Prop:= ∀c H (s s1 s2:af) v d,(∀b,s1.heap.get? b=none->s.heap.get? b=none)->D c H s1 s2 v d->D c H s s2 v d
theorem JK:LO VD:=λU U U U U U U U d=>d
theorem CN:LO VW:=λc H s s1 s2 v d k D=>by
 refine bN D λL h9=>cK h9 λD n=>?_
 exact⟨L,D,λa m=>k a<|n a m⟩
theorem ac6:LO VO:=λc H s s1 s2 v d k D=>by
 refine bN D λL h9=>cK h9 λD n=>?_
 exact⟨L,D,λa m=>k a<|n a m⟩
section
variable{F:Fx}{P:Pt}{r r1:Rw}{s s1:af}{E:aa av->Rw->Prop}{x x1 x2 x3:Dl->Rw->bc DV}{z:Dl->Rw->bc (aa DV)}{D:Dk}{r6:av}
theorem Gd.cl(G:Gd F P r s):Cl F P.H r s:=⟨G.wd,G.er,G.hx,G.iu⟩
theorem CO{K:ak->af->Prop}(h:cW F.M F.A (.call f ⟨vs,[]⟩) (Xp F s E K) s):wpAny F.M F.A (bS f vs) K (PX F s E) s:=
 tc (lQ h λr s' p=>by
  cases r with
  |error e=>exact p
  |ok f=>
   obtain⟨v,rfl,k⟩:=p
   exact k)
theorem JL(C:mZ F.c r6 f D g)(hl:r6<=F.lv)(hD:LO D)(T:gc F r1 s s1)(G:Gd F P r1 s1)(cs:e8 F.c P.H s1.heap vs xs)(q:(g xs r1).wp Q E):
  wpAny F.M F.A (bS f vs) (PV F (D F.c P.H) s Q) (PX F s E) s1:=
 aq (CO<|C F _ _ _ _ _ _ _ rfl hl G.cl cs q) (λv s2 p=>p.hF T λU U U d=>hD _ _ _ _ _ _ _ (λU=>T.kp.dp) d) λU U p=>p.hF T
theorem S.call(O:F.c.Ok)(C:mZ F.c r6 (.ref<|F.c.ue f) D g)(hl:r6<=F.lv)(hD:LO D)(hf:f<F.c.Cw)(hx:n=F.c.iG f)(hk:gp F.au n=true)(hst:args.all cD=true)(h:SL F pos args z):
  S F D (eval (.Call (.Name n np) args [] pos) F.au) (λδ r=>(z δ r).bind λvs r=>g vs r):=λP r s Q E G q=>by
 subst hx
 refine cR<|jM O G hk (O.Tw f hf).1<|jk hst (G.wd.K O) (.inr<|.inr (O.Tw f hf).2) ?_
 exact h.then G q λvs xs s1 r1 cs G1 T1 q1=>⟨G1.wd.K O,JL C hl hD T1 G1 cs q1⟩
inductive JM(h:cy)(c:Cx)(v:ak):Prop
 |mk {a ox od} (e:v=.ref a) (I:WJ h a ox (c.cls 0) (some od)) (hs:lookIn (br (aO 5)) od=some none)
theorem OU{H:az->Prop}(I:vC c H h v 0 fs)(h5:fs.lookup 5=none):JM h c v:=by
 obtain⟨rfl,ho,_,_,_,⟨od,es,ep,hd,Hn,W6,hm,_⟩,hf,hs⟩:=I
 exact⟨rfl,⟨ho,rfl,rfl,hd⟩,by rw[rZ Hn W6 hm,hf 5<|bK _,hs.none h5]⟩
theorem OV{H:az->Prop}(cv:dm F.c H s.heap v d)(h:uq d=true):JM s.heap F.c v:=by
 cases d with
 |n k fs=>
  have h:=dI.mp h
  cases k with
  |zero=>exact OU cv.pk<|An.mp h.2
  |succ k=>exact ff h.1
 |_=>exact ff h
theorem CQ{Q:ak->af->Prop}(hl:(apos.endLine==pos.line)=true)
  (h:wpAny F.M F.A (calleeOf true o au v n) (λp s1=>wpAny F.M F.A (adE pos p.1 p.2 (lR pos<|gk [] au)<|S4 pos<|Ed [] au) Q RE s1) RE s):wpAny F.M F.A (methodCall o n apos pos au v (([]:aa aX).length+([]:aa YX).length) (lR pos<|gk [] au)<|S4 pos<|Ed [] au) Q RE s:=by
 have hpos:afM true o au apos pos=pure pos:=aJ (by rw[hl];rfl)
 show wpAny _ _ (jr [v] (calleeOf true o au v n)>>=λp=>afM true o au apos pos>>=λcp=>adE cp p.1 p.2 (lR pos<|gk [] au)<|S4 pos<|Ed [] au) _ _ _
 refine aK hpos ?_
 exact ac<|dA<|aq h (λp s1 q=>ac<|aD q) λU U z=>z
theorem S.VV(O:F.c.Ok)(C:mZ F.c r6 (.ref<|F.c.ue 2000) D g)(hl:r6<=F.lv)(hD:LO D)(hx:n=br (aO 5))(ho:mY o=true)(hline:(apos.endLine==pos.line)=true)(h:SE F o x):
  S F D (eval (.Call (.Attribute o n apos) [] [] pos) F.au) (λδ r=>(x δ r).bind λx r=>if uq x=true then g [x] r else .d):=λP r s Q E G q=>by
 subst hx
 rw[arm_eval_Call,gT ho]
 refine ac<|h.then G q λv d s1 r1 cv G1 T1 q1=>?_
 by_cases hu:uq d=true
 ·rw[aJ hu]at q1
  obtain⟨rfl,I,hs⟩:=OV cv hu
  have p:=(O.Hm<|bD 2).vg
  refine n7 O.ZQ λc1 c2 c3=>?_
  refine ac<|gq<|CQ hline<|method_fn (G1.wd.K O) I (Ef p).1 (Ef p).2 c1 c2 ?_ ?_
  ·show(lookIn _ _).map _=_
   rw[hs];rfl
  ·exact S9 (G1.wd.K O) c3<|JL C hl hD T1 G1 (.cons cv .nil) q1
 ·rw[aN hu]at q1
  exact q1.elim
def qz(k:av)(vs:aa ak)(fs:aa (av×ak)):Prop:=
 match k with
 |0=> ∃vk vi va,(vs=[vk,vi,va]\/(vs=[vk,vi]/\va=.none))/\fs=[(0,vk),(1,vi),(2,va),(3,.bool false),(4,.bool false)]
 |1=> ∃t,fs=[(0,.str (br [78,85,76,76]) t),(2,.none)]
 |2=> ∃t,fs=[(0,.str (br [109,105,115,115,105,110,103]) t),(2,.none)]
 |_=>cC
def Bs(k n:av):Prop:=if k=0 then n=2\/n=3 else n=0
inductive yC(F:Fx)(k:av)(vs:aa ak)(dx:az)(r:Rw)(s s':af):Prop
 |mk {m fs} (hf:qz k vs fs) (ho:j6 s'.heap dx m fs.length) (hm: ∀f≤5,m (br (aO f))=fs.lookup f) (wd:Wd F.c r s') (kp:Kp (λx=>x=dx) (jU F.du) s.heap s'.heap) (same: ∃h tk,s'={s with heap:=h,toks:=tk})
def lU(c:Cx)(r6 k:av):Prop:=
 ∀(F:Fx) H r s vs x dx,F.c=c->r6<=F.lv->Cl F H r s->s.heap.get? x=some (iF (F.c.cls k) dx)->j6 s.heap dx (λU=>none) 0->F.c.cV.get? dx=none-> ¬Xe F.c dx->dx∉jU F.du->Bs k vs.length->
  cW F.M F.A (.call (.ref<|F.c.ue<|1000+k) ⟨.ref x::vs,[]⟩) (λq s'=>q=.ok (.ret .none)/\yC F k vs dx r s s') s
inductive CR(F:Fx)(k:av)(vs:aa ak)(r:Rw)(s:af)(v:ak)(s':af):Prop
 |mk {a dx m fs} (e:v=.ref a) (na:s.heap.get? a=none) (nd:s.heap.get? dx=none) (ne:a≠dx) (hf:qz k vs fs) (ho:s'.heap.get? a=some (iF (F.c.cls k) dx)) (hd:j6 s'.heap dx m fs.length) (hm: ∀f≤5,m (br (aO f))=fs.lookup f) (T:gc F r s s')
theorem EU(a:az)(r:aa ak):(Code.builtin "type.__call__" ⟨.ref a::r,[]⟩).weight=1:=by kernel_rfl
theorem VJ.aad{H:az->Prop}(C:VJ F H s)(a:az)(vs:aa ak)(hl:r6<F.lv):VJ {F with A:=F.A.under<|.builtin "type.__call__" ⟨.ref a::vs,[]⟩,lv:=r6} H s:=by
 have h1:(F.A.under<|.builtin "type.__call__" ⟨.ref a::vs,[]⟩).depth=F.A.depth+1:=aE (F.A.depth+ ·)<|EU a vs
 have h2:(F.A.under<|.builtin "type.__call__" ⟨.ref a::vs,[]⟩).units=F.A.units+1:=rfl
 have d:=C.depth
 have u:=C.units
 refine⟨C.frames,C.cE,C.apart,?_,?_,C.handled⟩
 ·show(F.A.under<|.builtin "type.__call__" ⟨.ref a::vs,[]⟩).depth+4*r6<=900
  rw[h1];exact vy (by assumption) d (by decide)
 ·show(F.A.under<|.builtin "type.__call__" ⟨.ref a::vs,[]⟩).units+40*r6<=9000
  rw[h2];exact vy (by assumption) u (by decide)
end
section
variable{F:Fx}{P:Pt}{r r1:Rw}{s s1:af}{E:aa av->Rw->Prop}{x x1 x2 x3:Dl->Rw->bc DV}{z:Dl->Rw->bc (aa DV)}{D:Dk}{r6:av}
theorem qe(h:cy):h.get? (h.objs.size+1)=none:=by
 cases q:h.get? (h.objs.size+1) with
 |none=>rfl
 |some o=>exact absurd (d5 q) (q7.mpr (Ad _))
theorem Kp.aeh(k: ∀b o,h.get? b=some o->h1.get? b=some o)(kp:Kp (λx=>x=dx) fr h1 h2)(e:h.get? dx=none){X:az->Prop}:Kp X fr h h2:=
 (Kp.all (X:=X) (fr:=fr) k).trans kp λx q=>.inr (by rw[q];exact e)
theorem CR.kG(N:CR F k vs r s v s'):gc F r s s':=by
 obtain⟨_,_,_,_,_,_,_,_,T⟩:=N
 exact T
theorem CT(O:F.c.Ok)(hk:k<=2)(I:lU F.c r6 k)(hl:r6<F.lv)(G:Gd F P r s)(hn:Bs k vs.length):wpAny F.M F.A (bS (.ref<|F.c.cls k) vs) (CR F k vs r s) (λU U=>cC) s:=by
 have C:=O.Hm hk
 obtain⟨i1,i2⟩:=O.VN k hk
 have X:=G.wd.K O
 have g:Gr s {s with heap:=(s.heap.push Nn).push (iF (F.c.cls k) s.heap.objs.size)}:=(Gr.push s Nn s.toks).seq<|Gr.push _ _ _
 have gx:((s.heap.push Nn).push<|iF (F.c.cls k) s.heap.objs.size).get? (s.heap.objs.size+1)=some (iF (F.c.cls k) s.heap.objs.size):=by
  rw[←gl (h:=s.heap) (o:=Nn)];exact aR _ rfl
 have G2:=G.kG<|.gr G.wd g
 have q:=I {F with A:=F.A.under<|.builtin "type.__call__" ⟨.ref (F.c.cls k)::vs,[]⟩,lv:=r6} P.H r _ vs _ _ rfl (bK _) ⟨G2.wd,G2.er.aad (F.c.cls k) vs hl,G2.hx,G2.iu⟩ gx
  ⟨_,_,_,(aA _ (aR _ rfl)),rfl,λe he=>absurd he (by simp),λx=>rfl,bK _,rfl,rfl,rfl⟩ (G.wd.gb (bL _)) (G.wd.uu (bL _)) (λm=>by
   obtain⟨o,e,_⟩:=jL G.er.cE m
   rw[bL]at e;exact nn e) hn
 obtain⟨hh,gs,d,t,os⟩:=s
 refine tc<|make_core (makes_of X C.ZS) (tg X i1) (λj8=>bind_fn X j8 i2) (.inl rfl)<|lQ q λw s' p=>?_
 obtain⟨rfl,hf,ho,hm,wd,kp,same⟩:=p
 have ne:hh.objs.size+1≠hh.objs.size:=Tc _
 have hx:=kp.pq _ _ gx ne λm=>by
  obtain⟨o,e,_⟩:=jL G.er.cE m
  exact nn<|(qe hh).symm.trans e
 exact⟨rfl,.mk rfl (qe hh) (bL hh) ne hf hx ho hm ⟨wd,Kp.aeh g.all kp<|bL hh,df g.same same⟩⟩
inductive aae(xs:aa DV)(d:DV):Prop
 |EB {kd it cx} (e:d=jD kd it cx) (h:xs=[kd,it,cx])
 |two {kd it} (e:d=jD kd it .f) (h:xs=[kd,it])
theorem LP(e:ZH xs=some d):aae xs d:=by
 cases xs with
 |nil=>exact nn e
 |cons d1 xs=>
  cases xs with
  |nil=>exact nn e
  |cons d2 xs=>
   cases xs with
   |nil=>exact .two (am e).symm rfl
   |cons d3 xs=>
    cases xs with
    |cons=>exact nn e
    |nil=>exact .EB (am e).symm rfl
noncomputable abbrev OW(vk vi va:ak):aa (av×ak):=[(0,vk),(1,vi),(2,va),(3,.bool false),(4,.bool false)]
theorem aaf{H:az->Prop}(c1:dm c H h vk kd)(c2:dm c H h vi it)(c3:dm c H h va cx):j7 c H h (OW vk vi va) [(0,kd),(1,it),(2,cx),(3,.j false),(4,.j false)]:=
 .cons ⟨rfl,c1⟩ (.cons ⟨rfl,c2⟩<|.cons ⟨rfl,c3⟩<|.cons ⟨rfl,.bool _⟩<|.cons ⟨rfl,.bool _⟩ .nil)
theorem VX{H:az->Prop}(hl:l.length<=9999):j7 c H h [(0,pW (br l) t),(2,ak.none)] [(0,.d l),(2,.f)]:=.cons ⟨rfl,.str _ _ hl⟩<|.cons ⟨rfl,.none⟩ .nil
theorem OX(h:qz 0 [vk,vi,va] fs):fs=OW vk vi va:=by
 obtain⟨_,_,_,h,rfl⟩:=h
 rcases h with h|h
 ·cases h;rfl
 ·exact absurd (aE x8 h.1) (show 3≠2 by decide)
theorem VY(h:qz 0 [vk,vi] fs):fs=OW vk vi .none:=by
 obtain⟨_,_,_,h,rfl⟩:=h
 rcases h with h|h
 ·exact absurd (aE x8 h) (show 2≠3 by decide)
 ·obtain⟨h,rfl⟩:=h
  cases h;rfl
theorem CR.to{H:az->Prop}(iu: ∀b,H b-> ∃o,s.heap.get? b=some o)(N:CR F k vs r s v s')(hk:k<=2)(h: ∀fs:aa (av×ak),qz k vs fs->j7 F.c H s'.heap fs fd)(e:d=.n k fd):dm F.c H s'.heap v d:=by
 obtain⟨rfl,na,nd,ne,hf,ho,hd,hm,T⟩:=N
 subst e
 have D:=h _ hf
 exact .Oe ho hk (Ho (h':=s.heap) iu na) (Ho (h':=s.heap) iu nd) hd hm D.cn (λi p q e1 e2=>(D.cx i p q e1 e2).1) λi p q e1 e2=>(D.cx i p q e1 e2).2
theorem CR.nB{H:az->Prop}(iu: ∀b,H b-> ∃o,s.heap.get? b=some o)(N:CR F k vs r s v s')(hk:k<=2)(cs:e8 F.c H s'.heap vs xs)(e:He k xs=some d):dm F.c H s'.heap v d:=by
 cases k with
 |zero=>
  rcases LP e with⟨rfl,rfl⟩|⟨rfl,rfl⟩
  ·obtain⟨v1,ws,rfl,c1,cs⟩:=cs.un
   obtain⟨v2,ws,rfl,c2,cs⟩:=cs.un
   obtain⟨v3,rfl,c3⟩:=cs.jx
   exact N.to iu hk (λfs h=>OX h▸aaf c1 c2 c3) rfl
  ·obtain⟨v1,ws,rfl,c1,cs⟩:=cs.un
   obtain⟨v2,rfl,c2⟩:=cs.jx
   exact N.to iu hk (λfs h=>VY h▸aaf c1 c2 .none) rfl
 |succ k=>
  cases k with
  |zero=>exact N.to iu hk (λfs h=>by obtain⟨t,rfl⟩:=h;exact VX (by decide))<|dT e
  |succ k=>
   cases k with
   |zero=>exact N.to iu hk (λfs h=>by obtain⟨t,rfl⟩:=h;exact VX (by decide))<|dT e
   |succ k=>exact nn e
theorem ii.jx{H:az->Prop}(x:ii c H h v d L):L.Nodup/\ ∀a∈L,∃o,h.get? a=some o:=by
 have key: ∀(a:az) o,h.get? a=some o->[a].Nodup/\ ∀b∈[a],∃o,h.get? b=some o:=λa o e=>⟨Ez ..,λb m=>by cases bh.mp m;exact⟨o,e⟩⟩
 cases d with
 |c xs=>obtain⟨_,rfl,ho,_⟩:=x;exact key _ _ ho
 |h xs=>obtain⟨_,rfl,_,⟨o,es,ho,_⟩,_⟩:=x;exact key _ _ ho
 |o xs=>obtain⟨_,rfl,_,⟨o,es,ep,ho,_⟩,_⟩:=x;exact key _ _ ho
 |f=>rw[x.2];exact⟨A6,λa m=>nomatch m⟩
 |_=>exact x.elim
inductive aei(c:Cx)(H:az->Prop)(s s':af)(v:ak)(d:DV)(L:aa az):Prop
 |mk {L'} (D:Z4 c (HL H L') s'.heap v d L') (n: ∀b∈L',s.heap.get? b=none\/b∈L)
theorem CR.Em{H:az->Prop}(N:CR F 0 vs r s v s')(hx: ∀b,Xe F.c b->H b)(hf: ∀b∈jU F.du,H b)(hX: ∀b∈Li++La,¬Xe F.c b/\b∉jU F.du)(hv: ∀fs,qz 0 vs fs->fs=OW vk vi va)(ck:dm F.c (HL H<|Li++La) s.heap vk kd)(ci:ii F.c (HL H<|Li++La) s.heap vi it Li)(ca:ii F.c (HL H<|Li++La) s.heap va cx La)(nd:(Li++La).Nodup):
  aei F.c H s s' v (jD kd it cx) (Li++La):=by
 obtain @⟨a,dx,m,fs,rfl,na,nx,ne,hi,ho,hd,hm,T⟩:=N
 cases hv _ hi
 have fx:=T.kp.g9 (H:=HL H<|Li++La) (λb q=>.inl<|hx b q)<|λb q=>.inl<|hf b q
 have up:qR (HL H<|Li++La) (HL H<|a::dx::(Li++La)) s.heap:=λb q=>by
  rcases q with q|q
  ·exact .inl<|.inl q
  rcases a0.mp q with rfl|q
  ·exact .inr na
  rcases a0.mp q with rfl|q
  ·exact .inr nx
  ·exact .inl<|.inr q
 have fL:TE (Li++La) s.heap s'.heap:=λb m o e=>T.kp.pq b o e (hX b m).1 (hX b m).2
 have th: ∀b∈Li++La,∃o,s.heap.get? b=some o:=λb m=>(cY.mp m).elim (ci.jx.2 b)<|ca.jx.2 b
 have no: ∀b,s.heap.get? b=none->b∉Li++La:=λb e m=>by
  refine bN (th b m) λo z=>?_
  exact nn<|e.symm.trans z
 refine⟨.mk vk vi va kd it cx rfl rfl rfl (bB.mpr ⟨λm=>?_,bB.mpr ⟨no _ nx,nd⟩⟩) ho hd hm (ck.aW fx up) (ci.aW fx up λb m=>fL b<|bO _ m)<|ca.aW fx up λb m=>fL b<|cU _ m,λb m=>?_⟩
 ·rcases a0.mp m with m|m
  ·exact ne m
  ·exact no _ na m
 ·rcases a0.mp m with rfl|m
  ·exact .inl na
  ·rcases a0.mp m with rfl|m
   ·exact .inl nx
   ·exact .inr m
theorem OY(e:He k xs=some d):Bs k xs.length:=by
 cases k with
 |zero=>
  cases xs with
  |nil=>exact nn e
  |cons d1 xs=>
   cases xs with
   |nil=>exact nn e
   |cons d2 xs=>
    cases xs with
    |nil=>exact .inl rfl
    |cons d3 xs=>
     cases xs with
     |cons=>exact nn e
     |nil=>exact .inr rfl
 |succ k=>
  have h:xs.isEmpty=true->Bs (k+1) xs.length:=λh=>by rw[xx.mp h];rfl
  cases k with
  |zero=>exact h<|eh e
  |succ k=>
   cases k with
   |zero=>exact h<|eh e
   |succ k=>exact nn e
theorem uB{Q:ak->af->Prop}(O:F.c.Ok)(hk:k<=2)(hx:n=F.c.fY k)(hkd:gp F.au n=true)(hst:args.all cD=true)(G:Gd F P r s)
  (h:wpAny F.M F.A (wu<|lR pos<|gk args F.au) (λvs s₁=>F.c.K.In s₁.heap/\wpAny F.M F.A (bS (.ref<|F.c.cls k) vs) Q RE s₁) RE s):wpAny F.M F.A (eval (.Call (.Name n np) args [] pos) F.au) Q RE s:=by
 subst hx
 exact cR<|jM O G hkd (O.cns k hk).1<|jk hst (G.wd.K O) (.inr<|.inr (O.cns k hk).2) h
theorem S.new(O:F.c.Ok)(hk:k<=2)(I:lU F.c r6 k)(hl:r6<F.lv)(hx:n=F.c.fY k)(hkd:gp F.au n=true)(hst:args.all cD=true)(h:SL F pos args z):
  SE F (.Call (.Name n np) args [] pos) (λδ r=>(z δ r).bind λvs r=>bc.fG (He k vs) r):=λP r s Q E G q=>
 uB O hk hx hkd hst G (h.then G q λvs xs s1 r1 cs G1 T1 q1=>⟨G1.wd.K O,by
  obtain⟨e,q1⟩:=bc.dU q1
  refine aq (CT O hk I hl G1 (by rw[cs.cn];exact OY e)) (λv s2 N=>?_) λU U p=>p.elim
  have T:=N.kG
  exact⟨N.nB G1.iu hk (cs.g9 (G1.g9 T)) e,T1.seq T,q1⟩⟩)
theorem Gd.fr(G:Gd F P r s)(e:s.heap.get? a=none): ¬Xe F.c a/\a∉jU F.du:=⟨G.wd.uu e,λm=>by
 refine bN (jL G.er.cE m) λo h9=>cK h9 λz U=>?_
 exact nn (e.symm.trans z)⟩
theorem EW{Q:DV->Rw->Prop}(O:F.c.Ok)(I:lU F.c r6 0)(hl:r6<F.lv)(hn:Bs 0 vs.length)(hv: ∀fs,qz 0 vs fs->fs=OW vk vi va)(G:Gd F P r s)(T:gc F r1 s s1)(ck:dm F.c (HL P.H<|Li++La) s1.heap vk kd)(ci:ii F.c (HL P.H<|Li++La) s1.heap vi it Li)(ca:ii F.c (HL P.H<|Li++La) s1.heap va cx La)
  (nd:(Li++La).Nodup) (nL: ∀b∈Li++La,s.heap.get? b=none) (q:Q (jD kd it cx) r1):wpAny F.M F.A (bS (.ref<|F.c.cls 0) vs) (PV F (VW F.c P.H) s Q) (PX F s E) s1:=by
 have G1:=G.kG T
 refine aq (CT O (bD 2) I hl G1 hn) (λv s2 N=>?_) λU U p=>p.elim
 obtain⟨D,n⟩:=N.Em G1.hx (λb m=>(G1.er.apart b m).1) (λb m=>G.fr<|nL b m) hv ck ci ca nd
 exact⟨⟨_,.inr D,λb m=>(n b m).elim T.kp.dp<|nL b⟩,T.seq N.kG,q⟩
theorem ii.aag(T:gc F r1 s s1)(G:Gd F P r s)(x:ii F.c P.H s.heap v d L)(u:qR P.H H' s.heap)(n: ∀a∈L,¬Xe F.c a/\a∉jU F.du):ii F.c H' s1.heap v d L:=
 x.aW (G.g9 T) u λa m o e=>T.kp.pq a o e (n a m).1 (n a m).2
theorem S.Xq(O:F.c.Ok)(I:lU F.c r6 0)(hl:r6<F.lv)(hx:n=F.c.fY 0)(hkd:gp F.au n=true)(hst:[ke,ie].all cD=true)(h1:SE F ke x1)(h2:S F VO (eval ie F.au) x2):
  S F VW (eval (.Call (.Name n np) [ke,ie] [] pos) F.au) (λδ r=>((x1 δ r).bind λv r=>((x2 δ r).bind λv r=>(bc.c [] r).bind λvs r=>.c (v::vs) r).bind λvs r=>.c (v::vs) r).bind λvs r=>bc.fG (He 0 vs) r):=λP r s Q E G q=>by
 have p2:=da<|aF.mp hst ie<|.tail _<|.head _
 refine uB O (bD 2) hx hkd hst G<|bP (da<|aF.mp hst ke<|.head _) ?_
 refine h1.Aw G (bc.de<|bc.de q) λvk kd s1 r1 ck G1 T1 q1=>bP p2<|hZ T1<|h2.Aw G1 (bc.de<|bc.de q1) λvi it s2 r2 ci G2 T2 q2=>eu ⟨G2.wd.K O,?_⟩
 refine bN ci λLi h9=>cK h9 λci ni=>?_
 exact EW (cx:=.f) O I hl (.inl rfl) (λfs h=>VY h) G (T1.seq T2) (by rw[bI];exact ck.aW (G1.g9 T2)<|LI ni) (by rw[bI];exact ci) ⟨rfl,rfl⟩ (by rw[bI];exact ci.jx.1) (λb m=>T1.kp.dp<|ni b (by rwa [bI]at m)) q2
end
section
variable{F:Fx}{P:Pt}{r r1:Rw}{s s1:af}{E:aa av->Rw->Prop}{x1 x2 x3:Dl->Rw->bc DV}{r6:av}
theorem S.aej(O:F.c.Ok)(I:lU F.c r6 0)(hl:r6<F.lv)(hx:n=F.c.fY 0)(hkd:gp F.au n=true)(hst:[ke,ie,ae].all cD=true)(h1:SE F ke x1)(h2:S F VO (eval ie F.au) x2)(h3:S F VO (eval ae F.au) x3):
  S F VW (eval (.Call (.Name n np) [ke,ie,ae] [] pos) F.au) (λδ r=>((x1 δ r).bind λv r=>((x2 δ r).bind λv r=>((x3 δ r).bind λv r=>(bc.c [] r).bind λvs r=>.c (v::vs) r).bind λvs r=>.c (v::vs) r).bind λvs r=>.c (v::vs) r).bind λvs r=>bc.fG (He 0 vs) r):=λP r s Q E G q=>by
 have p2:=da<|aF.mp hst ie<|.tail _<|.head _
 have p3:=da<|aF.mp hst ae<|.tail _<|.tail _<|.head _
 refine uB O (bD 2) hx hkd hst G<|bP (da<|aF.mp hst ke<|.head _) ?_
 refine h1.Aw G (bc.de<|bc.de q) λvk kd s1 r1 ck G1 T1 q1=>bP p2<|hZ T1<|h2.Aw G1 (bc.de<|bc.de q1) λvi it s2 r2 ci G2 T2 q2=>?_
 obtain⟨Li,ci,ni⟩:=ci
 have fi: ∀b∈Li,¬Xe F.c b/\b∉jU F.du:=λb m=>G1.fr<|ni b m
 have Gm:=G1.up T2 (H':=HL P.H Li) (λU=>.inl) (LI ni) λb q=>q.elim (G2.iu b)<|ci.jx.2 b
 refine bP p3<|hZ (T1.seq T2)<|h3.Aw Gm (bc.de<|bc.de q2) λva cx s3 r3 ca G3 T3 q3=>eu ⟨G3.wd.K O,?_⟩
 obtain⟨La,ca,na⟩:=ca
 have nd:(Li++La).Nodup:=fJ.mpr ⟨ci.jx.1,ca.jx.1,λa m b m' e=>by
  obtain⟨o,z⟩:=ci.jx.2 a m
  exact nn ((na b m').symm.trans (e▸z))⟩
 have up:qR (HL P.H Li) (HL P.H<|Li++La) s2.heap:=λb q=>q.elim (λq=>.inl<|.inl q) λq=>(cY.mp q).imp .inr<|na b
 exact EW O I hl (.inr rfl) (λfs h=>OX h) G ((T1.seq T2).seq T3) ((ck.aW (G1.g9 T2)<|LI ni).aW (Gm.g9 T3) up) (ci.aag T3 Gm up fi) (ca.aW (.cm _ _) (.f9 λb q=>q.elim (λq=>.inl<|.inl q) λq=>(cY.mp q).imp .inr id) λU U U e=>e) nd (λb m=>T1.kp.dp<|(cY.mp m).elim (ni b) λm=>T2.kp.dp<|na b m) q3
end
inductive jV(c:Cx)(H:az->Prop)(h:cy)(I:az)(xs:aa DV)(k:av):Prop
 |list {a} (L:d4 c H h (.ref a) xs) (it:h.IsListIter I a k)
 |wB {a} (L:pj c H h (.ref a) xs) (it:h.IsTupleIter I a k)
 |gP {a ep} {kvs:aa (aa av×ak)} (hd:h.DictAt (eQ c.prog c.w) a (kvs.map λp=>(br p.1,p.2)) ep) (hH: ¬H a) (e:xs=kvs.map λp=>.d p.1) (hz: ∀p∈kvs,p.1.length<=9999) (it:h.IsKeyIter I a k kvs.length ep)
 |range {a st:aL} {n:av} (e:jC h I (a+k*st) (n - k) st) (ex:xs=(bp n).map λ(j:av)=>.a (a+j*st))
section
variable{c:Cx}{A:eX}{H:az->Prop}{h h':cy}{s:af}{RE:ak->af->Prop}{I:az}{xs:aa DV}{k:av}
theorem d4.aW(L:d4 c H h v xs)(f:mF H h h')(u:qR H H' h):d4 c H' h' v xs:=by
 obtain⟨e,ho,hH,hl,hs⟩:=L
 exact⟨e,f _ _ ho hH,u.no ho hH,hl,e8.aW f u hs⟩
theorem pj.aW(L:pj c H h v xs)(f:mF H h h')(u:qR H H' h):pj c H' h' v xs:=by
 obtain⟨e,ho,hc,hd,hx,hH,hl,hs⟩:=L
 exact⟨e,f _ _ ho hH,hc,hd,hx,u.no ho hH,hl,e8.aW f u hs⟩
theorem jV.aW(x:jV c H h I xs k)(f:mF H h h')(u:qR H H' h)(kI: ∀o,h.get? I=some o->h'.get? I=some o):jV c H' h' I xs k:=by
 cases x with
 |list L it=>obtain⟨o,e,r⟩:=it;exact .list (L.aW f u) ⟨o,kI _ e,r⟩
 |wB L it=>obtain⟨o,e,r⟩:=it;exact .wB (L.aW f u) ⟨o,kI _ e,r⟩
 |gP hd hH e hz it=>
  refine aU λG9 k9=>?_
  refine bN it λo h9=>cK h9 λe' r=>?_
  refine jK hd λod es h9=>cK h9 λe2 r2=>?_
  refine k9 ?_
  exact .gP ⟨od,es,f _ _ e2 hH,r2⟩ (u.no e2 hH) e hz ⟨o,kI _ e',r⟩
 |range e ex=>exact .range (kI _ e) ex
theorem jV.keep(x:jV c H h I xs k)(f:mF H h h')(kI: ∀o,h.get? I=some o->h'.get? I=some o):jV c H h' I xs k:=x.aW f (.cm _ _) kI
theorem jV.obj(x:jV c H h I xs k): ∃o,h.get? I=some o/\ ¬eJ o:=by
 cases x with
 |list L it=>obtain⟨o,e,_,d⟩:=it;exact⟨o,e,sM d (by simp)⟩
 |wB L it=>obtain⟨o,e,_,d⟩:=it;exact⟨o,e,sM d (by simp)⟩
 |gP hd hH e hz it=>obtain⟨o,e',_,d⟩:=it;exact⟨o,e',sM d (by simp)⟩
 |range e ex=>exact⟨_,e,sM rfl (by simp[dZ])⟩
set_option tactic.hygienic true in
theorem jV.HH{Q:ag ak->af->Prop}(hI:H I)(x:jV c H s.heap I xs k)(hx:xs[k]?=some d)
  (hQ: ∀v h' tk,bj I s.heap h'->dm c H h' v d->jV c H h' I xs (k+1)->Q (some v) {s with heap:=h',toks:=tk}):wpAny (model c.prog c.w) A (pU<|.ref I) Q RE s:=by
 have f: ∀h',bj I s.heap h'->mF H s.heap h':=λh' sb b o e n=>(sb.2 b λz=>n<|z▸hI).trans e
 cases x with
 |list L it=>
  have L0:=L
  obtain⟨e,ho,_,_,hs⟩:=L
  cases e
  refine bN (hs.vg hx) λv h9=>cK h9 λe' D=>?_
  exact wpAny_pyNext_list_item it (IsList.of ho) (by simpa using e') λh' it' sb=>hQ v h' s.toks sb (D.g9<|f h' sb)<|.list (L0.aW (f h' sb)<|.cm _ _) it'
 |wB L it=>
  have L0:=L
  obtain⟨e,ho,hc,hd,_,_,_,hs⟩:=L
  cases e
  refine bN (hs.vg hx) λv h9=>cK h9 λe' D=>?_
  exact wpAny_pyNext_tuple_item it ⟨_,ho,hc,_,hd⟩ (by simpa using e') λh' it' sb=>hQ v h' s.toks sb (D.g9<|f h' sb)<|.wB (L0.aW (f h' sb)<|.cm _ _) it'
 |gP hd hH e hz it=>
  rename_i a ep kvs
  subst e
  obtain⟨e1,hx⟩:=c9<|(bl ..).symm.trans hx
  cases hx
  rename_i p
  refine wpAny_pyNext_dict_item (by rw[aw];exact it) hd (k:=br p.1) (v:=p.2) (by rw[bl,e1];rfl) λkey h' hk it' sb=>?_
  refine bN (Jf hk) λt LD=>?_
  refine aK LD ?_
  rw[aw]at it'
  refine jK hd λod es h9=>cK h9 λe2 r2=>?_
  exact hQ _ h' s.toks sb (.str _ _<|hz _<|bG e1)<|.gP ⟨od,es,f h' sb _ _ e2 hH,r2⟩ hH rfl hz it'
 |range e ex=>
  rename_i a st n
  subst ex
  obtain⟨e1,hx⟩:=c9<|(bl ..).symm.trans hx
  cases hx
  refine bN (aY.mp e1) λh4 h5=>?_
  rw[nX]at h5
  subst h5
  rw[dR]at h4
  refine wpAny_pyNext_range_item e (acV.mpr<|d8.mpr h4) λh' e' sb=>hQ _ h' _ sb (.int _ _)<|.range (n:=n) ?_ rfl
  have h1:a+((k+1:av):aL)*st=a+(k:aL)*st+st:=by rw[x9,Int.add_mul,kB,vf]
  refine aK h1<|aK (by rw[x9,acU]:((n:aL) - ((k+1:av):aL))=(n:aL) - (k:aL) - 1) ?_
  exact e'
theorem jV.done{Q:ag ak->af->Prop}(hh:A.handled=none)(x:jV c H s.heap I xs k)(hk:k=xs.length)
  (hQ: ∀h',x6 I s.heap h'->Q none {s with heap:=h'}):wpAny (model c.prog c.w) A (pU<|.ref I) Q RE s:=by
 subst hk
 cases x with
 |list L it=>
  obtain⟨e,ho,_,_,hs⟩:=L
  cases e
  exact wpAny_pyNext_list_end hh it (IsList.of ho) (by rw[←hs.cn];simp) hQ
 |wB L it=>
  obtain⟨e,ho,hc,hd,_,_,_,hs⟩:=L
  cases e
  exact wpAny_pyNext_tuple_end hh it ⟨_,ho,hc,_,hd⟩ (by rw[←hs.cn];simp) hQ
 |gP hd hH e hz it=>
  subst e
  rw[aw]at it
  exact wpAny_pyNext_dict_end hh (by rw[aw];exact it) hd (by simp) hQ
 |range e ex=>
  refine wpAny_pyNext_range_end hh e ?_ hQ
  refine aK ex ?_
  rw[aw,dR]
  exact f8<|Int.sub_self _
theorem jV.j8{Q:ak->af->Prop}(it:jV c H s.heap I xs k)(q:Q (.ref I) s):wpAny (model c.prog c.w) A (Cc<|.ref I) Q RE s:=by
 cases it with
 |list L it=>exact wpAny_pyIter_listiter it q
 |wB L it=>exact wpAny_pyIter_tupleiter it q
 |gP hd hH e hz it=>exact wpAny_pyIter_keyiter it q
 |range e ex=>exact wpAny_pyIter_rangeiter e q
end
inductive VI(c:Cx)(H:az->Prop)(s s':af)(v:ak)(xs:aa DV):Prop
 |mk {I} (e:v=.ref I) (it:jV c (λb=>H b\/b=I) s'.heap I xs 0) (n:s.heap.get? I=none) (hl:xs.length<=9999)
def Y7(c:Cx)(_:az->Prop)(s s':af)(v:ak)(xs:aa DV):Prop:= ∀H,VI c H s s' v xs
def SIk(D:Cx->(az->Prop)->af->af->ak->aa DV->Prop)(F:Fx)(e:aX)(x:Dl->Rw->bc (aa DV)):Prop:=
 ∀P r s Q E,Gd F P r s->(x P.δ r).wp Q E->wpAny F.M F.A (eval e F.au) (λv s1=>wpAny F.M F.A (Cc v) (PV F (D F.c P.H) s Q) (PX F s E) s1) (PX F s E) s
abbrev SI(F:Fx)(e:aX)(x:Dl->Rw->bc (aa DV)):Prop:=SIk VI F e x
theorem SIk.LG(h:SIk Y7 F e x):SI F e x:=λP r s Q E G q=>
 aq (h P r s Q E G q) (λU U z=>aq z (λU U p=>by
  obtain⟨D,T,q⟩:=p
  exact⟨D _,T,q⟩) λU U p=>p) λU U p=>p
section
variable{F:Fx}{P:Pt}{r r1:Rw}{s s1:af}{E:aa av->Rw->Prop}{x:Dl->Rw->bc DV}{z:Dl->Rw->bc (aa DV)}
theorem mF.push(H:az->Prop)(h:cy)(o:Obj):mF H h (h.push o):=.all λU U e=>aA _ e
theorem LQ(H:az->Prop)(e:h.get? I=none):qR H (λb=>H b\/b=I) h:=λb q=>q.imp id λ(z:b=I)=>by rw[z];exact e
theorem HJ{Q:aa DV->Rw->Prop}(G:Gd F P r1 s1)(T:gc F r1 s s1)(it:jV F.c (λb=>P.H b\/b=s1.heap.objs.size) (s1.heap.push o) s1.heap.objs.size xs 0)(hl:xs.length<=9999)(q:Q xs r1):PV F (VI F.c P.H) s Q (.ref s1.heap.objs.size) {s1 with heap:=s1.heap.push o}:=
 ⟨⟨rfl,it,T.kp.dp<|bL _,hl⟩,T.seq<|.push G.wd o s1.toks,q⟩
theorem OZ(hs:j7 c H h kvs es)(e:(es.all λp=>decide<|p.1.length<=9999)=true):(es.map λp=>DV.d p.1)=kvs.map (λp=>.d p.1)/\ ∀p∈kvs,p.1.length<=9999:=by
 refine⟨?_,λp hp=>?_⟩
 ·refine NX λi=>?_
  rw[bl,bl]
  cases q:es[i]? with
  |none=>
   rw[gF,←hs.cn]at q
   rw[gF.mpr q];rfl
  |some p=>
   refine bN (hs.vg q) λv h9=>cK h9 λe' r=>?_
   refine aK e' ?_
   show some (DV.d p.1)=some (DV.d v.1)
   exact aK r.1 rfl
 ·refine bN (hs.mem hp) λd h9=>cK h9 λm r=>?_
  refine aK r.1 ?_
  exact ah<|aF.mp e d m
theorem SI.ex{e:aX}(h:SE F e x):SI F e (λδ r=>(x δ r).bind λv r=>bc.fG (vB v) r):=λP r s Q E G q=>
 h.then G q λv d s1 r1 cv G1 T1 q1=>by
  obtain⟨e,q1⟩:=bc.dU q1
  rcases dC e with e|e
  ·have L:=cv.bW e
   obtain⟨rfl,ho,_,hz,hs⟩:=L
   exact Ai (IsList.of ho)<|HJ G1 T1 (.list ((cv.bW e).aW (mF.push _ _ _)<|LQ _<|bL _) ⟨_,aR _ rfl,rfl,rfl⟩) (hs.cn▸hz) q1
  rcases dC e with e|e
  ·have L:=cv.eN e
   obtain⟨rfl,ho,hc,hd,_,_,hz,hs⟩:=L
   exact wpAny_pyIter_tuple ⟨_,ho,hc,_,hd⟩<|HJ G1 T1 (.wB ((cv.eN e).aW (mF.push _ _ _)<|LQ _<|bL _) ⟨_,aR _ rfl,rfl,rfl⟩) (hs.cn▸hz) q1
  ·obtain⟨e1,e⟩:=bind_some e
   obtain⟨rfl,hm,hd,hH,hl,hs⟩:=cv.dN e1
   have k:=OZ hs<|eh e
   refine wpAny_pyIter_dict hm hd<|HJ G1 T1 ?_ (by rw[aw,←hs.cn];exact ao hl (by decide))<|dT e▸q1
   rw[aw]
   refine aU λG9 k9=>?_
   obtain⟨od,es,e2,r2⟩:=hd
   refine k9 ?_
   exact .gP ⟨od,es,aA _ e2,r2⟩ ((LQ P.H<|bL _).no e2 hH) k.1 k.2 ⟨_,aR _ rfl,rfl,rfl⟩
theorem JN{o o':Obj}{tk}{xs}{Q:aa DV->Rw->Prop}(G:Gd F P r1 s1)(T:gc F r1 s s1)(it: ∀H:az->Prop,jV F.c (λb=>H b\/b=(s1.heap.push o).objs.size) ((s1.heap.push o).push o') (s1.heap.push o).objs.size xs 0)(hl:xs.length<=9999)(q:Q xs r1):
  PV F (Y7 F.c P.H) s Q (.ref (s1.heap.push o).objs.size) {s1 with heap:=(s1.heap.push o).push o',toks:=tk}:=by
 have T2:gc F r1 s {s1 with heap:=s1.heap.push o,toks:=tk}:=T.seq<|.push G.wd o tk
 exact⟨λH=>⟨rfl,it H,T2.kp.dp<|bL<|s1.heap.push o,hl⟩,T2.seq<|.push T2.wd o' tk,q⟩
theorem EX{c:Cx}{H:az->Prop}{h:cy}{a st cn:aL}{n:av}{xs}(hl:cn=n)(ex:xs=(bp n).map λ(j:av)=>DV.a<|a+j*st):jV c H (h.push {cls:=.type "range_iterator",data:=.fields #[dZ a,dZ cn,dZ st]}) h.objs.size xs 0:=by
 refine .range (a:=a) (st:=st) (n:=n) ?_ ex
 have e1:a+((0:av):aL)*st=a:=by rw[Te,Int.zero_mul,xf]
 refine aK e1<|aK (by rw[Te,gO,hl]:(n:aL) - ((0:av):aL)=cn) ?_
 exact aR _ rfl
theorem O3{n:aL}:(if 0<n then n - 0 else 0)=((n - 0).toNat:aL):=up0.trans (by rw[gO])
theorem O4:(if -1<a then a - -1 else 0)=((a - -1).toNat:aL):=by
 split
 ·exact(hU<|tB<|bz (by assumption)).symm
 ·rw[Nw<|Int.sub_nonpos_of_le<|dS.mp (by assumption)];rfl
theorem CU{n:aL}(h: -9999<=n/\n<=9999): -(2^62)<=n/\n<2^62:=⟨ay (by decide) h.1,bF h.2 (by decide)⟩
theorem aek{v n t}{Q:aa DV->Rw->Prop}(hv:v=.int n t)(h: -9999<=n/\n<=9999)(G1:Gd F P r1 s1)(T1:gc F r1 s s1)(q1:Q (cG 0 n) r1):wpAny F.M F.A (bS (.type "range") [v]) (λv s1=>wpAny F.M F.A (Cc v) (PV F (Y7 F.c P.H) s Q) (PX F s E) s1) (PX F s E) s1:=by
 refine aK hv ?_
 refine NM<|xX (ww ..) (Zt (by decide) (by decide) (CU h).1 (CU h).2) ?_
 exact JN G1 T1 (λH=>EX (n:=_) (by rw[K6,O3]) (by unfold cG;exact cr λj U=>by rw[Ae])) (by unfold cG;rw[aw,dR];exact xc.mpr<|ay (Aq _ (by decide)) h.2) q1
theorem ael{v u w:ak}{a b d t t2 t3}{Q:aa DV->Rw->Prop}(hv:v=.int a t)(hu:u=.int b t2)(hw:w=.int d t3)(hd:d= -1)(hb:b= -1)(h: -1<=a/\a<=9998)(G1:Gd F P r1 s1)(T1:gc F r1 s s1)(q1:Q (qb a b) r1):
  wpAny F.M F.A (bS (.type "range") [v,u,w]) (λv s1=>wpAny F.M F.A (Cc v) (PV F (Y7 F.c P.H) s Q) (PX F s E) s1) (PX F s E) s1:=by
 subst hv hu hw hd hb
 have sm:=CU ⟨ay (by decide) h.1,ay h.2 (by decide)⟩
 refine call_range_3 (by decide) ?_<|.inl<|Bn ⟨by decide,by decide⟩
 refine xX (ww ..) (small_down sm.1 sm.2 (by decide) (by decide)) ?_
 exact JN G1 T1 (λH=>EX (n:=_) (by rw[rangeSize_down,O4]) (by unfold qb;exact cr λj U=>by rw[Int.mul_neg,Ae,Int.sub_eq_add_neg])) (by unfold qb;rw[aw,dR];exact xc.mpr<|jj h.2 (-1)) q1
theorem SI.range{rx:b9}{np pos:jt}{args:aa aX}(O:F.c.Ok)(hr:rx="range")(hk:gp F.au rx=true)(hst:args.all cD=true)(h:SL F pos args z):
  SIk Y7 F (.Call (.Name rx np) args [] pos) (λδ r=>(z δ r).bind λvs r=>bc.fG (fQ vs) r):=λP r s Q E G q=>by
 subst hr
 refine cR<|fR O G hk j9.mem j9.ne j9.is<|jk hst (G.wd.K O) (.inr<|.inl ⟨_,rfl⟩) ?_
 refine h.then G q λvs xs s1 r1 cs G1 T1 q1=>⟨G1.wd.K O,?_⟩
 obtain⟨e,q2⟩:=bc.dU q1
 cases xs with
 |nil=>exact nn e
 |cons x xs=>
  cases xs with
  |nil=>
   obtain⟨v,rfl,cv⟩:=cs.jx
   refine aU λG9 k9=>?_
   obtain⟨e1,e⟩:=bind_some e
   obtain⟨t,hv⟩:=cv.cZ e1
   refine k9 ?_
   exact aek hv (yl<|eh e) G1 T1<|dT e▸q2
  |cons y xs=>
   obtain⟨e1,e⟩:=pp e
   subst e1
   obtain⟨v,ws,rfl,cv,cs⟩:=cs.un
   obtain⟨u,ws,rfl,cu,cs⟩:=cs.un
   obtain⟨w,rfl,cw⟩:=cs.jx
   refine aU λG9 k9=>?_
   obtain⟨e1,e⟩:=bind_some e
   obtain⟨e2,e3,e⟩:=cj e
   obtain⟨t,hv⟩:=cv.cZ e1
   obtain⟨t2,hu⟩:=cu.cZ e2
   obtain⟨t3,hw⟩:=cw.cZ e3
   refine k9 ?_
   have b:=eh e
   simp only[be,g0]at b
   exact ael hv hu hw b.1.1.1 b.1.1.2 ⟨b.1.2,b.2⟩ G1 T1<|dT e▸q2
end
section
variable{F:Fx}{P:Pt}{r r1:Rw}{s s1:af}{RE:ak->af->Prop}{h h':cy}{vs:aa (ag ak)}
theorem Ns.mG{a b:az}{m}(n:h.Ns a m)(sb:bj b h h')(hne:a≠b):h'.Ns a m:=n.at' λo e=>(sb.2 a hne).trans e
theorem IsCell.mG{a b:az}{v}(n:h.IsCell a v)(sb:bj b h h')(hne:a≠b):h'.IsCell a v:=by
 refine bN n λo h9=>cK h9 λe d=>?_
 exact⟨o,(sb.2 a hne).trans e,d⟩
theorem CV{au Λ ca v}(V:iI au Λ vs h)(hc:h.IsCell ca v):ca≠au.locals:=by
 rintro rfl
 obtain⟨m,⟨o,es,ep,e1,hd,_⟩,_⟩:=V.ns
 obtain⟨o',e2,hd'⟩:=hc
 rw[e1]at e2;cases e2
 exact absurd (hd.symm.trans hd') (by simp)
theorem uC{au:tx}(hp:au.cells.Pairwise λx y=>x.2≠y.2){x y:b9}{a b:az}(e1:au.cells.lookup x=some a)(e2:au.cells.lookup y=some b)(h:x≠y):a≠b:=by
 intro e
 obtain⟨i1,l1,g1⟩:=l7.mp<|cJ e1
 obtain⟨i2,l2,g2⟩:=l7.mp<|cJ e2
 replace hp:=(pb).mp hp
 rcases Nat.lt_trichotomy i1 i2 with q|q|q
 ·exact hp i1 i2 l1 l2 q (by rw[g1,g2];exact e)
 ·subst q;rw[g1]at g2;exact h<|aE (λx=>x.1) g2
 ·exact hp i2 i1 l2 l1 q (by rw[g1,g2];exact e.symm)
theorem fS{α:Type}{vs:aa (ag α)}{i j:av}{v u:α}(e:(vs.set i<|some v)[j]?=some (some u)):(j=i/\u=v)\/(j≠i/\vs[j]?=some (some u)):=by
 by_cases q:j=i
 ·subst q
  rw[dy,aJ rfl]at e
  split at e
  ·exact .inl ⟨rfl,(am<|am e).symm⟩
  ·exact nn e
 ·rw[sK<|λz=>q z.symm]at e
  exact .inr ⟨q,e⟩
structure Pok(au:tx)(h h':cy)(a:az):Prop where
 ic:yi au a
 sb:bj a h h'
 Bt: ∃o,h.get? a=some o/\ ∀vs,o.data≠.fields vs
 is: ∃o,h'.get? a=some o/\ ∀vs,o.data≠.fields vs
theorem Ns.nf{a:az}{m}(n:h.Ns a m): ∃o,h.get? a=some o/\ ∀vs,o.data≠.fields vs:=by
 refine A9 n λo es ep h9=>n7 h9 λe hd U=>?_
 exact⟨o,e,λvs q=>by rw[hd]at q;exact absurd q (by simp)⟩
theorem IsCell.nf{a:az}{v}(n:h.IsCell a v): ∃o,h.get? a=some o/\ ∀vs,o.data≠.fields vs:=by
 refine bN n λo h9=>cK h9 λe hd=>?_
 exact⟨o,e,λvs q=>by rw[hd]at q;exact absurd q (by simp)⟩
theorem iI.LR{au Λ i x v h'}{m:b9->ag ak}(V:iI au Λ vs h)(gv:Λ[i]?=some (some x))(hk:au.kindOf x=some .local)(hm: ∀(i:av) x v,Λ[i]?=some (some x)->vs[i]?=some (some v)->au.kindOf x=some .local->m x=some v)
  (hn:h'.Ns au.locals λy=>if y=x then some v else m y) (sb:bj au.locals h h'):iI au Λ (vs.set i<|some v) h':=by
 refine{V with cn:=(dn ..).trans V.cn,ns:=⟨_,hn,λj y u h1 h2 h3=>?_⟩,cell:=λj y u h1 h2 h3=>?_,cE:=λy h1=>?_,SJ:=λp hp=>?_}
 ·rcases fS h2 with⟨rfl,rfl⟩|⟨hj,h2⟩
  ·rw[gv]at h1;cases h1;exact aJ rfl
  ·refine aK (aN λz=>hj<|V.inj j i x (by rw[h1,z]) gv) ?_
   exact hm j y u h1 h2 h3
 ·rcases fS h2 with⟨rfl,rfl⟩|⟨hj,h2⟩
  ·rw[gv]at h1;cases h1
   rw[hk]at h3
   rcases h3 with h3|h3<;>exact absurd h3 (by simp)
  ·refine bN (V.cell j y u h1 h2 h3) λca h9=>cK h9 λe1 e2=>?_
   exact⟨ca,e1,IsCell.mG e2 sb<|CV V e2⟩
 ·refine jK (V.cE y h1) λca u h9=>cK h9 λe1 e2=>?_
  exact⟨ca,u,e1,IsCell.mG e2 sb<|CV V e2⟩
 ·by_cases z:p.2=au.locals
  ·refine bN (Ns.nf hn) λo h9=>cK h9 λe U=>?_
   exact⟨o,z▸e⟩
  ·refine bN (V.SJ p hp) λo e=>?_
   exact⟨o,(sb.2 _ z).trans e⟩
theorem iI.O5{au Λ i x v h' ca u0}(V:iI au Λ vs h)(gv:Λ[i]?=some (some x))(hk:au.kindOf x=some .cell)(ec:au.cells.lookup x=some ca)(hc:h.IsCell ca u0)(hc':h'.IsCell ca (some v))(sb:bj ca h h'):iI au Λ (vs.set i<|some v) h':=by
 refine bN V.ns λm h9=>cK h9 λhn hm=>?_
 refine{V with cn:=(dn ..).trans V.cn,ns:=⟨m,Ns.mG hn sb (CV V hc).symm,λj y u h1 h2 h3=>?_⟩,cell:=λj y u h1 h2 h3=>?_,cE:=λy h1=>?_,SJ:=λp hp=>?_}
 ·rcases fS h2 with⟨rfl,rfl⟩|⟨hj,h2⟩
  ·rw[gv]at h1;cases h1
   rw[hk]at h3;exact absurd h3 (by simp)
  ·exact hm j y u h1 h2 h3
 ·rcases fS h2 with⟨rfl,rfl⟩|⟨hj,h2⟩
  ·rw[gv]at h1;cases h1
   exact⟨ca,ec,hc'⟩
  ·refine bN (V.cell j y u h1 h2 h3) λcb h9=>cK h9 λe1 e2=>?_
   exact⟨cb,e1,IsCell.mG e2 sb<|uC V.apart e1 ec λz=>hj<|V.inj j i x (by rw[h1,z]) gv⟩
 ·by_cases z:y=x
  ·exact⟨ca,_,z▸ec,hc'⟩
  ·refine jK (V.cE y h1) λcb u h9=>cK h9 λe1 e2=>?_
   exact⟨cb,u,e1,IsCell.mG e2 sb<|uC V.apart e1 ec z⟩
 ·by_cases z:p.2=ca
  ·refine bN (IsCell.nf hc') λo h9=>cK h9 λe U=>?_
   exact⟨o,z▸e⟩
  ·refine bN (V.SJ p hp) λo e=>?_
   exact⟨o,(sb.2 _ z).trans e⟩
theorem kh{M}{A}{au Λ i x}{v}{Q:Ah->af->Prop}(V:iI au Λ vs s.heap)(gv:Λ[i]?=some (some x))(hk:au.kindOf x=some .local\/au.kindOf x=some .cell)
  (hQ: ∀h' tk a,Pok au s.heap h' a->(au.kindOf x=some .local->a=au.locals)->iI au Λ (vs.set i<|some v) h'->Q () {s with heap:=h',toks:=tk}):wpAny M A (storeName au x v) Q RE s:=by
 rcases hk with hk|hk
 ·refine bN V.ns λm h9=>cK h9 λhn hm=>?_
  exact ug hk hn (λh' hn' sb=>hQ h' _ _ ⟨.inl rfl,sb,Ns.nf hn,Ns.nf hn'⟩ (λU=>rfl)<|V.LR gv hk hm hn' sb) (by rw[V.kind];rfl)
 ·refine jK (V.cE x hk) λca u0 h9=>cK h9 λec hc=>?_
  exact wpAny_storeName_cell V.kind hk ec hc λh' hc' sb=>hQ h' s.toks ca ⟨.cell ec,sb,IsCell.nf hc,IsCell.nf hc'⟩ (λz=>by rw[hk]at z;exact absurd z (by simp))<|V.O5 gv hk ec hc hc' sb
theorem Gd.Xr{a h' tk vs'}{δ':Dl}(G:Gd F P r s)(ha:P.H a)(hb:F.c.cV.get? a=none)(hx: ¬Xe F.c a)(sb:bj a s.heap h')(Bt: ∃o,s.heap.get? a=some o/\ ¬eJ o)(is: ∃o,h'.get? a=some o/\(a∈jU F.du-> ∀vs,o.data≠.fields vs))(V:iI F.au F.Λ vs' h')
  (O6: ∀(i:av) d,fM δ' i=some d-> ∃v,vs'[i]?=some (some v)/\dm F.c P.H h' v d):Gd F {P with vs:=vs',δ:=δ'} r {s with heap:=h',toks:=tk}:=by
 refine aU λG9 k9=>?_
 obtain⟨o,e,nc⟩:=Bt
 obtain⟨o',e',nf⟩:=is
 refine k9 ?_
 refine⟨G.wd.mG sb e nc hb hx,{G.er with cE:=iH (λL m o1 e1 d=>?_) G.er.cE},V,G.ic,G.hx,λb hb=>?_,O6⟩
 ·by_cases z:L=a
  ·subst z;exact⟨o',e',nf m⟩
  ·exact⟨o1,(sb.2 L z).trans e1,d⟩
 ·by_cases z:b=a
  ·subst z;exact⟨o',e'⟩
  ·obtain⟨o1,e1⟩:=G.iu b hb
   exact⟨o1,(sb.2 b z).trans e1⟩
theorem mF.mG{H:az->Prop}{a:az}(sb:bj a h h')(ha:H a):mF H h h':=λb o e n=>(sb.2 b λz=>n<|z▸ha).trans e
theorem O7{δ:Dl}{i j d d'}(e:fM (δ.set i<|some d) j=some d'):(j=i/\d'=d)\/(j≠i/\fM δ j=some d'):=by
 obtain⟨e1,e2⟩:=bind_some e
 cases e2
 rcases fS e1 with q|⟨q,e1⟩
 ·exact .inl q
 ·exact .inr ⟨q,by unfold fM;rw[e1];rfl⟩
theorem rg{α:Type}{vs:aa α}{i:av}{v:α}(h:i<vs.length):(vs.set i v)[i]?=some v:=by rw[dy,aJ rfl,aJ h]
theorem fT{α:Type}{vs:aa α}{i j:av}{v:α}(h:j≠i):(vs.set i v)[j]?=vs[j]?:=sK λz=>h z.symm
theorem iI.cx{au Λ i x}(V:iI au Λ vs h)(gv:Λ[i]?=some (some x)):i<vs.length:=by
 rw[V.cn];exact(aY.mp gv).1
theorem Gd.wJ{i x v d h' tk a}(G:Gd F P r s)(gv:F.Λ[i]?=some (some x))(K:Pok F.au s.heap h' a)(V:iI F.au F.Λ (P.vs.set i<|some v) h')(D:dm F.c P.H s.heap v d):Gd F {P with vs:=P.vs.set i<|some v,δ:=P.δ.set i (some d)} r {s with heap:=h',toks:=tk}:=by
 obtain⟨h1,h2,h3⟩:=G.ic a K.ic
 obtain⟨o,e,n⟩:=K.Bt
 obtain⟨o',e',n'⟩:=K.is
 have f:=mF.mG K.sb h1
 refine G.Xr h1 h2 h3 K.sb ⟨o,e,mr n⟩ ⟨o',e',λU=>n'⟩ V λj d' e=>?_
 rcases O7 e with⟨rfl,rfl⟩|⟨q,e⟩
 ·exact⟨v,rg<|G.ev.cx gv,D.g9 f⟩
 ·obtain⟨u,e1,D1⟩:=G.nB j d' e
  exact⟨u,(fT q).trans e1,D1.g9 f⟩
end
def vO(names:aa (b9×eB))(au:tx):Prop:= ∀p∈names,p.2=.free->au.kindOf p.1=some .cell
inductive aem(au:tx)(names:aa (b9×eB))(Xt:aa (b9×az)):Prop
 |mk (cl:aa (b9×az)) (e:(forIn names Xt λ(x:b9×eB) (r:aa (b9×az))=>(do
   if(x.2==.free)=true then do
    let a ←cellOf au x.1
    pure (gm<|(x.1,a)::r)
   else pure (gm r):xt (Ny (aa (b9×az)))))=pure (cl++Xt)) (h1: ∀p∈cl,au.cells.lookup p.1=some p.2/\(p.1,kT)∈names) (h2: ∀x,(x,kT)∈names-> ∃a,(x,a)∈cl) (h3:(names.map (λx=>x.1)).Nodup->(cl.map (λx=>x.1)).Nodup)
theorem HK(hc: ∀x,au.kindOf x=some .cell-> ∃a,au.cells.lookup x=some a)(names:aa (b9×eB))(Xt:aa (b9×az))(h:vO names au):aem au names Xt:=by
 induction names generalizing Xt with
 |nil=>exact⟨[],rfl,λp h=>(nomatch h),λx h=>(nomatch h),λU=>A6⟩
 |cons p r ih=>
  have hr:vO r au:=λq hq=>h q<|.tail _ hq
  by_cases hk:p.2=.free
  ·refine bN (hc p.1<|h p (.head _) hk) λa ha=>?_
   obtain⟨cl,e,h1,h2,h3⟩:=ih ((p.1,a)::Xt) hr
   refine⟨cl++[(p.1,a)],?_,λq hq=>?_,λy hy=>?_,λhn=>?_⟩
   ·rw[iw,aJ (by rw[hk];rfl)]
    have:cellOf au p.1=pure a:=by unfold cellOf;rw[ha]
    rw[this]
    refine(pure_bind ..).trans<|e.trans ?_
    rw[eU];rfl
   ·rcases cY.mp hq with hq|hq
    ·exact⟨(h1 q hq).1,.tail _ (h1 q hq).2⟩
    ·cases bh.mp hq
     exact⟨ha,hk▸.head _⟩
   ·rcases a0.mp hy with e|hy
    ·exact⟨a,cU _ (by rw[←e];exact .head _)⟩
    ·refine bN (h2 y hy) λb hb=>?_
     exact⟨b,bO _ hb⟩
   ·rw[dK,bB]at hn
    rw[mB]
    refine fJ.mpr ⟨h3 hn.2,Ez ..,λy hy z hz e=>?_⟩
    cases bh.mp hz
    refine bN (bb.mp hy) λq h9=>cK h9 λhq hqe=>?_
    have m:q.1∈r.map (λx=>x.1):=g7 (h1 q hq).2
    rw[show q.1=p.1 from hqe.trans e]at m
    exact hn.1 m
  ·obtain⟨cl,e,h1,h2,h3⟩:=ih Xt hr
   refine⟨cl,?_,λq hq=>⟨(h1 q hq).1,.tail _ (h1 q hq).2⟩,λy hy=>?_,λhn=>h3 (bB.mp hn).2⟩
   ·rw[iw]
    refine aK (aN (by simpa using hk)) ?_
    exact(pure_bind ..).trans e
   ·rcases a0.mp hy with e|hy
    ·exact absurd (by rw[←e]) hk
    ·exact h2 y hy
theorem yD{β:Type}{l:aa (b9×β)}(hn:(l.map<|λx=>x.1).Nodup){x:b9}{b:β}(h:(x,b)∈l):l.lookup x=some b:=by
 induction l with
 |nil=>cases h
 |cons p r ih=>
  rw[dK,bB]at hn
  show(match x==p.1 with|true=>some p.2|false=>r.lookup x)=some b
  rcases a0.mp h with e|h9
  ·rw[←e,bH]
  ·refine aK (show(x==p.1)=false from cz.mpr λz=>hn.1<|z▸g7 (f:=λp:b9×β=>p.1) h9) ?_
   exact ih hn.2 h9
structure rh(au:tx)(scope:jB)(cl:aa (b9×az)):Prop where
 eq:closureFor scope au=pure cl
 of: ∀p∈cl,au.cells.lookup p.1=some p.2
 d9: ∀x,scope.names.lookup x=some .free->cl.lookup x=au.cells.lookup x
 md:(cl.map<|λx=>x.1).Nodup
theorem mH{Λ vs h}{au:tx}{scope:jB}(V:iI au Λ vs h)(hf:vO scope.names au)(hn:(scope.names.map<|λx=>x.1).Nodup): ∃cl,rh au scope cl:=by
 obtain⟨cl,e,h1,h2,h3⟩:=HK (au:=au) (λx hx=>by obtain⟨ca,v,e,_⟩:=V.cE x hx;exact⟨ca,e⟩) scope.names [] hf
 refine⟨cl,?_,λp hp=>(h1 p hp).1,λx hx=>?_,h3 hn⟩
 ·unfold closureFor
  rw[bI]at e
  have: ∀(f g:(b9×eB)->aa (b9×az)->xt (Ny<|aa<|b9×az)),(∀x r,f x r=g x r)->forIn scope.names [] f=(forIn scope.names [] g:xt _):=λf g h=>by rw[show f=g from funext λx=>funext λr=>h x r]
  refine(bind_congr λU=>rfl).trans ?_
  rw[this _ _<|λx r=>?_,e]
  ·rfl
  ·obtain⟨n,k⟩:=x
   cases k<;>rfl
 ·refine bN (h2 x<|cJ hx) λa ha=>?_
  refine aK ((h1 _ ha).1) ?_
  exact yD (h3 hn) ha
noncomputable def EY(names:aa (b9×eB))(n:b9):ag Str:=if names.lookup n=some .free then some n else none
noncomputable def dg(Λ:aa (ag b9))(names:aa (b9×eB))(i:av)(x:b9):aa (ag b9):=(Λ.map λo=>o.bind<|EY names).set i<|some x
noncomputable abbrev TS(au:tx)(p:b9×eB):b9×NameKind:=match p with|(n,k)=>if(k==kT&&au.scope.kind==.function&&au.kindOf n==some .cell) then(n,fP) else(n,k)
theorem EZ(au:tx)(p:b9×eB):(TS au p).1=p.1:=by
 show(if _ then(p.1,fP) else(p.1,p.2):b9×eB).1=p.1
 split<;>rfl
theorem r7{β:Type}{p:b9×β}{r:aa (b9×β)}{x:b9}:(p::r).lookup x=if x=p.1 then some p.2 else r.lookup x:=by
 show(match x==p.1 with|true=>some p.2|false=>r.lookup x)=_
 by_cases h:x=p.1
 ·exact aK (aJ h)<|aK (f4.mpr h) rfl
 ·exact aK (aN h)<|aK (cz.mpr h) rfl
theorem CW{au:tx}{names:aa (b9×eB)}{x:b9}(hk:au.scope.kind=.function)(h:names.lookup x=some .free)(hx:au.kindOf x=some .cell):(names.map<|TS au).lookup x=some .cell:=by
 induction names with
 |nil=>exact nn h
 |cons p r ih=>
  rw[dK,r7,EZ]
  rw[r7]at h
  by_cases q:x=p.1
  ·rw[aJ q]at h ⊢
   show some (if _ then(p.1,fP) else(p.1,p.2):b9×eB).2=_
   rw[aJ (by rw[(am h),hk,←q,hx];rfl)]
  ·rw[aN q]at h ⊢
   exact ih h
theorem CX{au:tx}{names:aa (b9×eB)}{x:b9}(hc: ∀y∈names,y.2≠.cell)(h:(names.map<|TS au).lookup x=some .cell):names.lookup x=some .free/\au.kindOf x=some .cell:=by
 induction names with
 |nil=>exact nn h
 |cons p r ih=>
  rw[dK,r7,EZ]at h
  refine aK r7 ?_
  by_cases q:x=p.1
  ·rw[aJ q]at h ⊢
   have h:some (if(p.2==kT&&au.scope.kind==.function&&au.kindOf p.1==some .cell)=true then(p.1,fP) else(p.1,p.2):b9×eB).2=some fP:=h
   split at h
   ·rename_i z
    simp only[be,f4]at z
    exact⟨aE some z.1.1,q▸z.2⟩
   ·exact absurd (am h)<|hc p<|.head _
  ·rw[aN q]at h ⊢
   exact ih (λy hy=>hc y<|.tail _ hy) h
structure m3(au:tx)(Λ:aa (ag b9))(scope:jB)(i:av)(x:b9):Prop where
 free:vO scope.names au
 md:(scope.names.map<|λx=>x.1).Nodup
 oU: ∀y∈scope.names,y.2≠.cell
 kind:scope.kind=.function
 slot:i<Λ.length
 var:scope.names.lookup x=some .local
theorem m3.names{au Λ scope i x}(K:m3 au Λ scope i x): ∀y∈scope.names,y.2=.local->scope.names.lookup y.1=some .local:=λy hy e=>yD K.md<|e▸hy
theorem kV(h:(dg Λ names i x)[j]?=some (some y)):(j=i/\y=x)\/(j≠i/\Λ[j]?=some (some y)/\names.lookup y=some .free):=by
 rcases fS h with q|⟨e,h⟩
 ·exact .inl q
 ·obtain⟨e1,h⟩:=c9<|(bl ..).symm.trans h
  obtain⟨e2,h4⟩:=bind_some<|am h
  subst e2
  unfold EY at h4
  split at h4
  ·cases h4;exact .inr ⟨e,e1,by assumption⟩
  ·exact nn h4
theorem ri(h:i<Λ.length):(dg Λ names i x)[i]?=some (some x):=rg (by rw[aw];exact h)
theorem yE{Λ vs h h'}{au:tx}{scope:jB}{cl:aa (b9×az)}{i:av}{x:b9}{C:az}{m:b9->ag ak}(V:iI au Λ vs h)(K:m3 au Λ scope i x)(cs:rh au scope cl)
  (k: ∀b o,h.get? b=some o->h'.get? b=some o) (hC:h'.Ns C m):iI (fb scope cl C au) (dg Λ scope.names i x) (vs.set i none) h':=by
 have V:=V.keep (h':=h') λb U o e=>⟨o.slots,k b o e⟩
 have NC: ∀y,(fb scope cl C au).kindOf y=(scope.names.map<|TS au).lookup y:=λy=>rfl
 have fk: ∀y,scope.names.lookup y=some .free->(fb scope cl C au).kindOf y=some .cell/\au.kindOf y=some .cell:=λy hy=>by
  have:=K.free (y,.free) (cJ hy) rfl
  exact⟨(NC y).trans<|CW V.kind hy this,this⟩
 have hne: ∀(j:av) u,(vs.set i none)[j]?=some (some u)->j≠i:=λj u e z=>by
  subst z
  rw[dy,aJ rfl]at e
  split at e
  ·exact nn<|am e
  ·exact nn e
 refine⟨K.kind,V.globals,V.builtins,?_,⟨m,hC,λj y u h1 h2 h3=>?_⟩,λj y u h1 h2 h3=>?_,λy h1=>?_,?_,λj k y h1 h2=>?_,λp hp=>V.SJ _<|cJ<|cs.of p hp⟩
 ·unfold dg
  rw[dn,dn,aw]
  exact V.cn
 ·rcases kV h1 with⟨e,_⟩|⟨e,h4,h5⟩
  ·exact absurd e<|hne j u h2
  ·rw[(fk y h5).1]at h3;exact absurd h3 (by simp)
 ·rcases kV h1 with⟨e,_⟩|⟨e,h4,h5⟩
  ·exact absurd e<|hne j u h2
  ·rw[fT e]at h2
   refine bN (V.cell j y u h4 h2<|.inl (fk y h5).2) λca h9=>cK h9 λe1 e2=>?_
   exact⟨ca,(cs.d9 y h5).trans e1,e2⟩
 ·rw[NC]at h1
  refine cK (CX K.oU h1) λh2 h3=>?_
  refine jK (V.cE y h3) λca u h9=>cK h9 λe1 e2=>?_
  exact⟨ca,u,(cs.d9 y h2).trans e1,e2⟩
 ·have h1:cl.Pairwise λa b=>a.1≠b.1:=gK.mp cs.md
  exact vr (λha hb hne=>uC V.apart (cs.of _ ha) (cs.of _ hb) hne) h1
 ·rcases kV h1 with⟨rfl,rfl⟩|⟨e,h4,h5⟩
  ·rcases kV h2 with⟨rfl,_⟩|⟨e',h4',h5'⟩
   ·rfl
   ·rw[K.var]at h5';exact absurd h5' (by simp)
  ·rcases kV h2 with⟨rfl,rfl⟩|⟨e',h4',h5'⟩
   ·rw[K.var]at h5;exact absurd h5 (by simp)
   ·exact V.inj j k y h4 h4'
section
variable{F:Fx}{P:Pt}{r r1:Rw}{s s1:af}{E:aa av->Rw->Prop}{RE:ak->af->Prop}{h h':cy}
theorem Gd.E0(G:Gd F P r s)(ha:P.H a)(hb:F.c.cV.get? a=none)(hx: ¬Xe F.c a)(hf:a∉jU F.du)(hl: ¬yi F.au a)(sb:bj a s.heap h')(Bt: ∃o,s.heap.get? a=some o/\ ¬eJ o)(is: ∃o,h'.get? a=some o):Gd F P r {s with heap:=h',toks:=tk}:=by
 refine bN is λo e=>?_
 refine G.Xr ha hb hx sb Bt ⟨o,e,λm=>absurd m hf⟩ (G.ev.keep λb l o e=>⟨o.slots,(sb.2 b λz=>hl<|z▸l).trans e⟩) λi d e=>?_
 refine bN (G.nB i d e) λv h9=>cK h9 λq D=>?_
 exact⟨v,q,D.g9<|.mG sb ha⟩
theorem Gd.f9(G:Gd F P r s)(l: ∀(i:av) d,fM δ' i=some d->fM P.δ i=some d):Gd F {P with δ:=δ'} r s:=⟨G.wd,G.er,G.ev,G.ic,G.hx,G.iu,λi d e=>G.nB i d<|l i d e⟩
theorem ExtBut.same(e:x6 a h h'): ∀b o,b≠a->h.get? b=some o->h'.get? b=some o:=λb o n z=>e b o n z
noncomputable def lj(ifs:aa aX)(au:tx):xt Bool:=forIn ifs true λc r=>if r=true then do let ok ←jX c au (eval c au);pure (gm ok) else pure<|gm r
theorem E1(au:tx)(ifs:aa aX):(forIn ifs false λ(c:aX) (r:aM)=>if r=true then do let ok ←jX c au (eval c au);pure (gm ok) else pure (gm r):xt aM)=pure false:=by
 induction ifs with
 |nil=>rfl
 |cons e r ih=>rw[iw];exact aK (aN (by decide)) ((pure_bind ..).trans ih)
theorem SB.LU:SB F (lj [] F.au) (λU r=>.c true r):=λP r s Q E G q=>aD ⟨rfl,.cm G.wd,q⟩
theorem SB.HM(h1:SB F (jX e F.au<|eval e F.au) t)(h2:SB F (lj es F.au) u):
  SB F (lj (e::es) F.au) (λδ r=>(t δ r).uo.bind λb r=>if b=true then u δ r else .c false r):=λP r s Q E G q=>by
 unfold lj
 rw[iw]
 refine aK (aJ rfl) ?_
 refine ac<|ac<|aq (h1 P r s _ _ G<|bc.VH q) (λb s1 p=>?_) λU U p=>p.no
 obtain⟨e,T1,q1⟩:=p
 cases e
 refine aD ?_
 cases b with
 |true=>exact h2.from (λU U U U U U U d=>d) T1 (G.kG T1) q1
 |false=>
  dsimp only
  rw[E1]
  exact aD ⟨rfl,T1,q1⟩
end
structure CP(F:Fx)(H W:az->Prop)(s0:af)(I:az)(B:cy->aa DV->Prop):Prop where
 new: ∀b,(W b\/b=I\/b=F.au.locals)->s0.heap.get? b=none
 wI: ∀b,W b->b≠I/\b≠F.au.locals
 IC:I≠F.au.locals
 hH: ∀b,(W b\/b=I\/b=F.au.locals)->H b
 keep: ∀h h' acc,(∀b o,W b->h.get? b=some o->h'.get? b=some o)->mF H h h'->B h acc->B h' acc
 x0: ∀b,s0.heap.get? b=none->F.c.cV.get? b=none/\ ¬Xe F.c b/\b∉jU F.du
 ic: ∀b,yi F.au b->b=F.au.locals\/ ∃o,s0.heap.get? b=some o
structure CS(F:Fx)(H:az->Prop)(B:cy->aa DV->Prop)(s0:af)(I:az)(xs:aa DV)(k:av)(vs:aa (ag ak))(δ:Dl)(r:Rw)(acc:aa DV)(s:af):Prop where
 g:Gd F ⟨H,vs,δ⟩ r s
 T:gc F r s0 s
 it:jV F.c H s.heap I xs k
 b:B s.heap acc
section
variable{F:Fx}{H W:az->Prop}{B:cy->aa DV->Prop}{s0:af}{I:az}{xs:aa DV}{k i:av}{vs:aa (ag ak)}{δ:Dl}{r r1:Rw}{acc:aa DV}{s s1:af}{RE:ak->af->Prop}
theorem CS.kG(C:CP F H W s0 I B)(V:CS F H B s0 I xs k vs δ r acc s)(T:gc F r1 s s1):CS F H B s0 I xs k vs δ r1 acc s1:=by
 have f:=V.g.g9 T
 have VZ: ∀b o,s0.heap.get? b=none->s.heap.get? b=some o->s1.heap.get? b=some o:=λb o n e=>T.kp.pq b o e (C.x0 b n).2.1 (C.x0 b n).2.2
 exact⟨V.g.kG T,V.T.seq T,V.it.keep f λo e=>VZ I o (C.new I<|.inr<|.inl rfl) e,C.keep _ _ _ (λb o w e=>VZ b o (C.new b<|.inl w) e) f V.b⟩
theorem gc.mG(W2:Wd F.c r {s2 with heap:=h',toks:=tk})(T:gc F r s s2)(n:s.heap.get? a=none)(sb:bj a s2.heap h')(is: ∃o,h'.get? a=some o):gc F r s {s2 with heap:=h',toks:=tk}:=
 ⟨W2,T.kp.trans (Kp.mG (X:=(λx=>x=a)) sb is rfl) λx e=>.inr<|e▸n,df T.same ⟨_,_,rfl⟩⟩
theorem CP.nl(C:CP F H W s0 I B)(w:W b\/b=I): ¬yi F.au b:=λl=>by
 rcases C.ic b l with e|⟨o,e⟩
 ·rcases w with w|rfl
  ·exact(C.wI b w).2 e
  ·exact C.IC e
 ·exact nn<|(C.new b<|w.imp id .inl).symm.trans e
theorem CS.O8{Q:af->Prop}{Rn:af->Prop}(C:CP F H W s0 I B)(V:CS F H B s0 I xs k (vs.set i o) (δ.set i none) r acc s)(hx:xs[k]?=some d)(gv:F.Λ[i]?=some (some x))(hk:F.au.kindOf x=some .local)
  (hQ: ∀v s2,CS F H B s0 I xs (k+1) (vs.set i<|some v) (δ.set i<|some d) r acc s2->Q s2):
  wpAny F.M F.A (pU (.ref I)) (λq s1=>match q with
   |none=>Rn s1
   |some v=>wpAny F.M F.A (mQ (.Name x px) F.au v) (λU s2=>Q s2) RE s1) RE s:=by
 have hI:=C.hH I<|.inr<|.inl rfl
 have nI:=C.new I<|.inr<|.inl rfl
 obtain⟨b1,b2,b3⟩:=C.x0 I nI
 refine V.it.HH hI hx λv h' tk sb D it'=>?_
 obtain⟨oi,ei,_⟩:=it'.obj
 have G1:=V.g.E0 (tk:=tk) hI b1 b2 b3 (C.nl<|.inr rfl) sb V.it.obj ⟨oi,ei⟩
 have T1:=V.T.mG G1.wd nI sb ⟨oi,ei⟩
 refine qV<|kh G1.ev gv (.inl hk) λh2 ND a K ha V2=>?_
 cases ha hk
 have G2:=G1.wJ (tk:=ND) gv K V2 D
 rw[wy]at G2
 rw[wy]at G2
 obtain⟨o2,e2,_⟩:=K.is
 have hC:=C.hH F.au.locals<|.inr<|.inr rfl
 exact hQ v _ ⟨G2,T1.mG G2.wd (C.new _<|.inr<|.inr rfl) K.sb ⟨o2,e2⟩,it'.keep (.mG K.sb hC) λo e=>(K.sb.2 I C.IC).trans e,C.keep _ _ _ (λb o w e=>(K.sb.2 b (C.wI b w).2).trans e) (.mG K.sb hC)<|C.keep _ _ _ (λb o w e=>(sb.2 b (C.wI b w).1).trans e) (.mG sb hI) V.b⟩
theorem Gd.drop{H2:az->Prop}(G:Gd F P r s)(ha:P.H a)(hb:F.c.cV.get? a=none)(hx: ¬Xe F.c a)(nc: ∃o,s.heap.get? a=some o/\ ¬eJ o)(hf:a∉jU F.du)(hl: ¬yi F.au a)(k:x6 a s.heap h')(l1: ∀b,H2 b->P.H b/\b≠a)(l2: ∀b,P.H b->b≠a->H2 b):
  Gd F {P with H:=H2} r {s with heap:=h'}:=by
 have kk: ∀b o,b≠a->s.heap.get? b=some o->h'.get? b=some o:=λb o n e=>k b o n e
 have na: ∀b,P.H b->(b=a->cC)->H2 b:=λb h n=>l2 b h n
 have W2:Wd F.c r {s with heap:=h',toks:=s.toks}:=G.wd.Lv λb o e z=>kk b o (λq=>by
  subst q
  rcases z with z|z|z
  ·exact nn<|hb.symm.trans z
  ·exact hx z
  ·obtain⟨o1,e1,n1⟩:=nc
   cases e.symm.trans e1
   exact n1 z) e
 refine⟨W2,⟨G.er.frames,iH (λL m o e d=>⟨o,kk L o (λz=>hf (z▸m)) e,d⟩) G.er.cE,λb m=>⟨l2 b (G.er.apart b m).1 λz=>hf (z▸m),(G.er.apart b m).2⟩,G.er.depth,G.er.units,G.er.handled⟩,G.ev.keep λb q o e=>⟨o.slots,kk b o (λz=>hl (z▸q)) e⟩,
  λb q=>⟨l2 b (G.ic b q).1 λz=>hl (z▸q),(G.ic b q).2⟩,λb q=>l2 b (G.hx b q) λz=>hx (z▸q),λb q=>?_,λi d e=>?_⟩
 ·obtain⟨o,e⟩:=G.iu b (l1 b q).1
  exact⟨o,kk b o (l1 b q).2 e⟩
 ·obtain⟨v,q,D⟩:=G.nB i d e
  exact⟨v,q,D.aW (λb o e n=>kk b o (λz=>n<|z▸ha) e)<|.f9 λb q=>(l1 b q).1⟩
theorem CS.Xu{Q:ag ak->af->Prop}(C:CP F H W s0 I B)(V:CS F H B s0 I xs k vs δ r acc s)(hk:k=xs.length)
  (hQ: ∀s2,Gd F ⟨λb=>H b/\b≠I,vs,δ⟩ r s2->gc F r s0 s2->B s2.heap acc->Q none s2):wpAny F.M F.A (pU<|.ref I) Q RE s:=by
 have hI:=C.hH I<|.inr<|.inl rfl
 have nI:=C.new I<|.inr<|.inl rfl
 refine n7 (C.x0 I nI) λb1 b2 b3=>?_
 refine V.it.done V.g.er.handled hk λh' ex=>?_
 have G2:=V.g.drop (H2:=λb=>H b/\b≠I) hI b1 b2 V.it.obj b3 (C.nl<|.inr rfl) ex (λU z=>z) λU z n=>⟨z,n⟩
 have k1: ∀b o,b≠I->s.heap.get? b=some o->h'.get? b=some o:=λb o n e=>ex b o n e
 have n0: ∀b o,s0.heap.get? b=some o->b≠I:=λb o e z=>nn<|nI.symm.trans<|z▸e
 refine hQ _ G2 ⟨G2.wd,⟨λb o e=>?_,λb o e n f=>k1 b o (n0 b o e)<|V.T.kp.pq b o e n f,λb o e n f=>?_⟩,df V.T.same ⟨h',s.toks,rfl⟩⟩<|C.keep _ _ _ (λb o w e=>k1 b o (C.wI b w).1 e) (λb o e n=>k1 b o (λz=>n<|z▸hI) e) V.b
 ·obtain⟨o',e'⟩:=V.T.kp.cE b o e
  exact⟨o',k1 b o' (n0 b o e) e'⟩
 ·obtain⟨sl,e'⟩:=V.T.kp.NB b o e n f
  exact⟨sl,k1 b _ (n0 b o e) e'⟩
theorem CS.HE(C:CP F H W s0 I B)(hD:W D)(V:CS F H B s0 I xs k vs δ r acc s)(sb:bj D s.heap h')(Bt: ∃o,s.heap.get? D=some o/\ ¬eJ o)(is: ∃o,h'.get? D=some o)(b':B h' acc'):CS F H B s0 I xs k vs δ r acc' {s with heap:=h',toks:=tk}:=by
 have nD:=C.new D<|.inl hD
 refine n7 (C.x0 D nD) λb1 b2 b3=>?_
 have G:=V.g.E0 (tk:=tk) (C.hH D<|.inl hD) b1 b2 b3 (C.nl<|.inl hD) sb Bt is
 exact⟨G,V.T.mG G.wd nD sb is,V.it.keep (.mG sb<|C.hH D<|.inl hD) λo e=>(sb.2 I (C.wI D hD).1.symm).trans e,b'⟩
inductive LV(F:Fx)(H:az->Prop)(B:cy->aa DV->Prop)(s0:af)(I:az)(xs:aa DV)(i:av)(vs:aa (ag ak))(δ:Dl)(aW:DV->Rw->bc (aa DV))(K:aa DV->Rw->Prop)(w wd n:av)(s:af):Prop
 |mk {k r acc o} (hn:n+k=xs.length) (V:CS F H B s0 I xs k (vs.set i o) (δ.set i none) r acc s) (q:(gn aW (xs.drop k) acc r).wp K λU U=>cC) (hw:acc.length<=w+wd*k)
set_option tactic.hygienic true in
theorem r8{x}{px}{aW}{K:aa DV->Rw->Prop}{w wd n}{Rn:af->Prop}{body:(af->Prop)->af->Prop}(C:CP F H W s0 I B)(gv:F.Λ[i]?=some (some x))(hk:F.au.kindOf x=some .local)
  (hbody: ∀k d r s acc v (K':aa DV->Rw->Prop) (P:af->Prop),CS F H B s0 I xs k (vs.set i (some v)) (δ.set i (some d)) r acc s->(aW d r).wp K' (λU U=>cC)->acc.length+wd<=w+wd*k->k<=xs.length->
   (∀a r' s',CS F H B s0 I xs k (vs.set i (some v)) (δ.set i (some d)) r' (acc++a) s'->K' a r'->a.length<=wd->P s')->body P s)
  (hend: ∀r s acc o,Gd F ⟨λb=>H b/\b≠I,vs.set i o,δ.set i none⟩ r s->gc F r s0 s->B s.heap acc->K acc r->acc.length<=w+wd*xs.length->Rn s)
  (V:LV F H B s0 I xs i vs δ aW K w wd n s):
  wpAny F.M F.A (pU (.ref I)) (λq s1=>match q with
   |none=>Rn s1
   |some v=>wpAny F.M F.A (mQ (.Name x px) F.au v) (λU s2=>body (λs5=> ∃m,m<n/\LV F H B s0 I xs i vs δ aW K w wd m s5) s2) RE s1) RE s:=by
 obtain⟨hn,V,q,hw⟩:=V
 rename_i k r acc o
 cases hd:xs[k]? with
 |none=>
  have hl:=gF.mp hd
  have hk:k=xs.length:=Ao (hn▸Ap ..) hl
  rw[qY hl]at q
  exact V.Xu C hk λs2 G T b=>hend r s2 acc o G T b q<|hk▸hw
 |some d=>
  obtain⟨hlt,hd'⟩:=aY.mp hd
  have q:=q
  rw[pd hlt,hd']at q
  refine V.O8 C hd gv hk λv s2 V2=>hbody (k+1) d r s2 acc v _ _ V2 (bc.VH q) (by rw[G6,←jT];exact fF hw _) hlt λa r' s' V' q' ha=>⟨n - 1,?_,.mk (k:=k+1) (r:=r') (acc:=acc++a) (o:=some v) ?_ ?_ q' ?_⟩
  ·exact(um hn hlt).1
  ·exact(um hn hlt).2
  ·have g:=V'.g.f9 (δ':=δ.set i none) λj d' e=>?_
   ·exact⟨g,V'.T,V'.it,V'.b⟩
   ·obtain⟨e1,e2⟩:=bind_some e
    cases e2
    by_cases z:j=i
    ·subst z
     rw[dy,aJ rfl]at e1
     split at e1
     ·exact nn<|am e1
     ·exact nn e1
    ·rw[fT z]at e1
     show(((δ.set i<|some d)[j]?).bind id)=some d'
     rw[fT z,e1];rfl
  ·rw[aP,G6,←jT]
   exact tA hw ha
end
section
variable{F:Fx}{P:Pt}{r r0 r1:Rw}{s s0 s1 s2:af}{E:aa av->Rw->Prop}{RE:ak->af->Prop}{h h':cy}{B:cy->aa DV->Prop}
structure Y8(h2 h1:cy)(D C:az)(ob:Obj):Prop where
 pq: ∀b o,h2.get? b=some o->h1.get? b=some o
 nD:h2.get? D=none
 nC:h2.get? C=none
 DC:D≠C
 oD:h1.get? D=some ob
 oC: ∃o,h1.get? C=some o/\ ∀vs,o.data≠.fields vs
theorem yF(hn:h1.Ns (h2.push ob).objs.size m)(sb:bj (h2.push ob).objs.size ((h2.push ob).push oc) h1)(hb:(h2.push ob).get? h2.objs.size=some ob):Y8 h2 h1 h2.objs.size (h2.push ob).objs.size ob:=by
 have hC:(h2.push ob).objs.size=h2.objs.size+1:=gl ..
 have nC:h2.get? (h2.push ob).objs.size=none:=by rw[hC];exact qe h2
 have DC:h2.objs.size≠(h2.push ob).objs.size:=by rw[hC];exact(Tc _).symm
 refine⟨λb o e=>(sb.2 b λz=>?_).trans<|aA _<|aA _ e,bL _,nC,DC,(sb.2 _ DC).trans<|aA _ hb,Ns.nf hn⟩
 rw[z,nC]at e;exact nn e
noncomputable abbrev Fx.fI(F:Fx)(scope:jB)(cl:aa (b9×az))(C:az)(Λ:aa (ag b9)):Fx:={F with au:=fb scope cl C F.au,Λ:=Λ}
theorem mI(e:fM (δ.set i none) j=some d):j≠i/\fM δ j=some d:=by
 obtain⟨e1,e2⟩:=bind_some e
 cases e2
 by_cases z:j=i
 ·subst z
  rw[dy,aJ rfl]at e1
  split at e1
  ·exact nn<|am e1
  ·exact nn e1
 ·rw[fT z]at e1
  exact⟨z,by unfold fM;rw[e1];rfl⟩
noncomputable abbrev iJ(P:Pt)(I D C:az)(b:az):Prop:=P.H b\/b=I\/b=D\/b=C
theorem CY(G0:Gd F P r0 s0)(T2:gc F r s0 s2)(nR:s0.heap.get? I=none)(thI: ∃o,s2.heap.get? I=some o)(hcl: ∀p∈cl,F.au.cells.lookup p.1=some p.2)(L:Y8 s2.heap h1 D C ob)
  (keep: ∀h h' acc,(∀o,h.get? D=some o->h'.get? D=some o)->mF (iJ P I D C) h h'->B h acc->B h' acc):CP (F.fI scope cl C Λ) (iJ P I D C) (λx=>x=D) s0 I B:=by
 have nC:=T2.kp.dp L.nC
 obtain⟨oI,eI⟩:=thI
 have IC:I≠C:=λz=>by rw[z,L.nC]at eI;exact nn eI
 have DI:D≠I:=λz=>by rw[←z,L.nD]at eI;exact nn eI
 refine⟨λb w=>?_,λb w=>?_,IC,λb w=>?_,λh h' acc k f b=>keep h h' acc (λo e=>k D o rfl e) f b,λb e=>⟨G0.wd.gb e,G0.fr e⟩,λb l=>?_⟩
 ·rcases w with rfl|rfl|rfl
  ·exact(T2.kp.dp L.nD)
  ·exact nR
  ·exact nC
 ·subst w;exact⟨DI,L.DC⟩
 ·rcases w with rfl|rfl|rfl
  ·exact .inr<|.inr<|.inl rfl
  ·exact .inr<|.inl rfl
  ·exact .inr<|.inr<|.inr rfl
 ·rcases l with rfl|⟨p,hp,rfl⟩
  ·exact .inl rfl
  ·obtain⟨o,e⟩:=G0.ev.SJ _<|cJ<|hcl p hp
   exact .inr ⟨o,e⟩
theorem CZ(G0:Gd F P r0 s0)(T2:gc F r s0 s2)(nR:s0.heap.get? I=none)(it:jV F.c (λb=>P.H b\/b=I) s2.heap I xs 0)(hcl: ∀p∈cl,F.au.cells.lookup p.1=some p.2)(L:Y8 s2.heap h1 D C ob)
  (V:iI (fb scope cl C F.au) Λ vs' h1) (hvs: ∀j,j≠i-> ∀v,P.vs[j]?=some (some v)->vs'[j]?=some (some v)) (O6:aa (ag DV)) (aep: ∀j d,fM O6 j=some d->j≠i/\fM P.δ j=some d) (b:B h1 acc):
  CS (F.fI scope cl C Λ) (iJ P I D C) B s0 I xs 0 vs' O6 r acc {s2 with heap:=h1,toks:=tk}:=by
 have T3:gc F r s0 {s2 with heap:=h1,toks:=tk}:=T2.seq<|.gr T2.wd<|.Lw s2 L.pq
 have G3:=G0.kG T3
 obtain⟨oI,eI,_⟩:=it.obj
 have HI: ∀b,iJ P I D C b->P.H b\/s0.heap.get? b=none:=λb q=>by
  rcases q with q|rfl|rfl|rfl
  ·exact .inl q
  ·exact .inr nR
  ·exact .inr<|T2.kp.dp L.nD
  ·exact .inr<|T2.kp.dp L.nC
 obtain⟨oc,ec,_⟩:=L.oC
 refine n7 (show F.c.cV.get? C=none/\ ¬Xe F.c C/\C∉jU F.du from⟨G0.wd.gb<|T2.kp.dp L.nC,G0.fr<|T2.kp.dp L.nC⟩) λc1 c2 c3=>?_
 have up: ∀b,P.H b->iJ P I D C b:=λb=>.inl
 refine⟨⟨G3.wd,⟨G3.er.frames,G3.er.cE,λb m=>⟨up b (G3.er.apart b m).1,(G3.er.apart b m).2⟩,G3.er.depth,G3.er.units,G3.er.handled⟩,V,λb l=>?_,λb x=>up b<|G3.hx b x,λb q=>?_,λj d e=>?_⟩,⟨T3.wd,T3.kp,T3.same⟩,?_,b⟩
 ·rcases l with rfl|⟨p,hp,rfl⟩
  ·exact⟨.inr<|.inr<|.inr rfl,c1,c2⟩
  ·have:=G3.ic _<|.cell<|hcl p hp
   exact⟨up _ this.1,this.2⟩
 ·rcases q with q|rfl|rfl|rfl
  ·exact G3.iu b q
  ·exact⟨oI,L.pq _ _ eI⟩
  ·exact⟨ob,L.oD⟩
  ·exact⟨oc,ec⟩
 ·obtain⟨z,e⟩:=aep j d e
  obtain⟨v,e1,D1⟩:=G0.nB j d e
  exact⟨v,hvs j z v e1,D1.aW (G0.g9 T3) HI⟩
 ·refine it.aW (.all L.pq) (λb q=>?_)<|L.pq I
  rcases q with q|q|rfl|rfl
  ·exact .inl<|.inl q
  ·exact .inl<|.inr q
  ·exact .inr L.nD
  ·exact .inr L.nC
end
section
variable{F:Fx}{P:Pt}{r r0 r1:Rw}{s s0 s1 s2:af}{E:aa av->Rw->Prop}{RE:ak->af->Prop}{h h':cy}
theorem gc.HN(W:Wd F.c r0 s0)(T:gc F r s0 s)(n:s0.heap.get? a=none)(nc: ∃o,s.heap.get? a=some o/\ ¬eJ o)(k: ∀b o,b≠a->s.heap.get? b=some o->h'.get? b=some o):gc F r s0 {s with heap:=h',toks:=tk}:=by
 have n0: ∀b o,s0.heap.get? b=some o->b≠a:=λb o e z=>nn<|n.symm.trans<|z▸e
 refine⟨T.wd.Lv λb o e z=>k b o (λq=>?_) e,⟨λb o e=>?_,λb o e x f=>k b o (n0 b o e)<|T.kp.pq b o e x f,λb o e x f=>?_⟩,df T.same ⟨_,_,rfl⟩⟩
 ·subst q
  rcases z with z|z|z
  ·exact nn<|(W.gb n).symm.trans z
  ·exact W.uu n z
  ·refine bN nc λo1 h9=>cK h9 λe1 n1=>?_
   cases e.symm.trans e1
   exact n1 z
 ·refine bN (T.kp.cE b o e) λo' e'=>?_
  exact⟨o',k b o' (n0 b o e) e'⟩
 ·refine bN (T.kp.NB b o e x f) λsl e'=>?_
  exact⟨sl,k b _ (n0 b o e) e'⟩
structure HP(F:Fx)(P:Pt)(s0:af)(D C:az)(d:DV)(r:Rw)(s:af):Prop where
 T:gc F r s0 s
 nD:s0.heap.get? D=none
 nC:s0.heap.get? C=none
 DC:D≠C
 ns: ∃m,s.heap.Ns C m
 nF:ii F.c (λb=>HL P.H [D] b\/b=C) s.heap (.ref D) d [D]
theorem iy.keep{H:az->Prop}(x:iy c H h (.ref D) acc [D])(k: ∀o,h.get? D=some o->h'.get? D=some o)(f:mF H h h'):iy c H h' (.ref D) acc [D]:=by
 obtain⟨e,eL,ho,hl,hs⟩:=x
 cases e
 exact⟨rfl,eL,k _ ho,hl,hs.g9 f⟩
noncomputable abbrev JO(t:Dl->Rw->bc aM)(y:Dl->Rw->bc DV)(δ:Dl)(i:av)(d:DV)(r:Rw):bc (aa DV):=(t (δ.set i<|some d) r).bind λb r1=>if b=true then(y (δ.set i<|some d) r1).bind λv r=>.c [v] r else .c [] r1
theorem Bu{RR:ak->az->tq->af->Prop}{Kf:aa DV->Rw->Prop}(K:m3 F.au F.Λ scope i x)(cs:rh F.au scope cl)
  (hT: ∀C,SB (F.fI scope cl C<|dg F.Λ scope.names i x) (lj ifs<|fb scope cl C F.au) t) (hE: ∀C,SE (F.fI scope cl C<|dg F.Λ scope.names i x) elt y)
  (G0:Gd F P r0 s0) (T2:gc F r s0 s2) (nR:s0.heap.get? I=none) (it:jV F.c (λb=>P.H b\/b=I) s2.heap I xs 0) (hlen:xs.length<=9999)
  (q:(gn (JO t y P.δ i) xs [] r).wp Kf λU U=>cC) (hRR: ∀D C s r acc,HP F P s0 D C (.c acc) r s->Kf acc r->RR (.ref D) C (.ok .next) s):
  wpAny F.M F.A (newList []) (λacc s₃=>wpAny F.M F.A (GS scope F.au.globals cl [] F.au.qual none .none (some F.au)) (λcenv s₄=>
   cW F.M F.A (.compStart (.ListComp elt [⟨.Name x px,iter,ifs,0⟩] scope pos) 0 (.ref I) acc {cenv with scope:=YR scope F.au}) (RR acc cenv.locals) s₄) RE s₃) RE s2:=by
 refine qU<|nG K.oU (by intro y hy;simp at hy) (λh₁ hns sb=>?_) K.kind
 have L:=yF hns sb<|aR _ rfl
 have G2:=G0.kG T2
 refine bN it.obj λoI h9=>cK h9 λeI U=>?_
 have core: ∀(D C:az) (h₁:cy) tk,Y8 s2.heap h₁ D C (eZ [] 0)->(∃m,h₁.Ns C m)->cW F.M F.A (.compStart (.ListComp elt [⟨.Name x px,iter,ifs,0⟩] scope pos) 0 (.ref I) (.ref D)<|fb scope cl C F.au) (RR (.ref D) C) {s2 with heap:=h₁,toks:=tk}:=by
  intro D C h₁ tk L hn
  refine bN hn λm hn=>?_
  have JP:=CY (Λ:=dg F.Λ scope.names i x) (B:=λh acc=>iy F.c (iJ P I D C) h (.ref D) acc [D]) (scope:=scope) G0 T2 nR ⟨oI,eI⟩ cs.of L λh h' acc k f b=>iy.keep b k f
  have V0:=CZ (B:=λh acc=>iy F.c (iJ P I D C) h (.ref D) acc [D]) (tk:=tk) (acc:=[]) G0 T2 nR it cs.of L (yE G2.ev K cs L.pq hn) (λj z v e=>(fT z).trans e) (P.δ.set i none) (λj d e=>mI e) ⟨rfl,rfl,L.oD,bD _,.nil⟩
  have loop: ∀s3,CS (F.fI scope cl C<|dg F.Λ scope.names i x) (iJ P I D C) (λh acc=>iy F.c (iJ P I D C) h (.ref D) acc [D]) s0 I xs 0 (P.vs.set i none) (P.δ.set i none) r [] s3->
    cW F.M F.A (.compLoop (.ListComp elt [⟨.Name x px,iter,ifs,0⟩] scope pos) 0 (.ref I) (.ref D)<|fb scope cl C F.au) (RR (.ref D) C) s3:=λs3 V=>by
   refine codeAny_compLoop_tests (LV (F.fI scope cl C<|dg F.Λ scope.names i x) (iJ P I D C) (λh acc=>iy F.c (iJ P I D C) h (.ref D) acc [D]) s0 I xs i P.vs P.δ (JO t y P.δ i) Kf 0 1) (λn s hI=>?_) xs.length<|.mk (k:=0) rfl V q<|bD _
   refine r8 (F:=F.fI scope cl C (dg F.Λ scope.names i x)) (w:=0) (wd:=1) (body:=λP' s₂=>wpAny F.M F.A (lj ifs (fb scope cl C F.au)) (λok s₃=>if ok=true then wpAny F.M F.A (eval elt (fb scope cl C F.au)) (λx s₄=>
       wpAny F.M F.A (bS (.builtin "list.append") [.ref D,x]) (λU s₅=>P' s₅) _ s₄) _ s₃ else P' s₃) _ s₂) JP (ri K.slot) (nJ K.var) (λk d r s acc v K' P' V q hw hk hP=>?_) (λr s acc o G T b qk U=>?_) hI
   ·refine aq ((hT C).Aw V.g (bc.de q) λb d' s1 r1 e G1 T1 q1=>?_) (λU U z=>z) λU U p=>p.no
    cases e
    have V1:=V.kG JP T1
    cases b with
    |false=>exact hP [] r1 s1 (by rw[bI];exact V1) q1<|bD _
    |true=>
     refine aq ((hE C).Aw G1 (bc.de q1) λv y s2 r2 D1 G2 T2 q2=>?_) (λU U z=>z) λU U p=>p.no
     have V2:=V1.kG JP T2
     refine aq (vN (λb m=>JP.hH b<|.inl<|bh.mp m) V2.b D1<|eE (Nat.lt_of_succ_le hw) (by rw[kU,ty];exact ao hk hlen)) (λw s3 p=>?_) λU U p=>p.elim
     obtain⟨rfl,p⟩:=p
     obtain⟨e,eL,D,sb,⟨o,e1,n1⟩,⟨h',tk,rfl⟩⟩:=p
     cases e
     refine bN (D.jx.2 _<|.head _) λo' eo=>?_
     exact hP [y] r2 _ (V2.HE JP rfl sb ⟨o,e1,n1⟩ ⟨o',eo⟩ D) q2<|bK _
   ·have ev:=G.ev.ns
    refine bN ev λm h9=>cK h9 λhn U=>?_
    refine hRR D C s r acc ⟨⟨T.wd,T.kp,T.same⟩,T2.kp.dp L.nD,T2.kp.dp L.nC,L.DC,⟨m,hn⟩,?_⟩ qk
    exact ii.aW (d:=.c acc) (.cm _ _) (.f9 λb q=>q.elim (λq=>q.imp id λq=>.inr<|.inl<|bh.mp q) λq=>.inr<|.inr<|.inr q) (λU U U e=>e) b
  exact NL (loop _ V0)<|V0.it.j8<|loop _ V0
 exact core _ _ _ _ L ⟨_,hns⟩
theorem HP.eM(W:Wd F.c r0 s0)(V:HP F P s0 D C d r s)(q:Q d r): ∃m,s.heap.Ns C m/\ ∀h',bj C s.heap h'->PV F (VO F.c P.H) s0 Q (.ref D) {s with heap:=h'}:=by
 refine aU λG9 k9=>?_
 refine bN V.ns λm hn=>?_
 refine bN (Ns.nf hn) λo h9=>cK h9 λe nf=>?_
 refine k9 ?_
 refine⟨m,hn,λh' sb=>⟨⟨[D],V.nF.aW (.mG sb<|.inr rfl) (.f9 λU=>.inl) λa ma o e=>?_,λa ma=>?_⟩,.HN W V.T V.nC ⟨o,e,mr nf⟩ λb o n e=>(sb.2 b n).trans e,q⟩⟩
 ·cases bh.mp ma
  exact(sb.2 _ V.DC).trans e
 ·cases bh.mp ma
  exact V.nD
theorem rj{aW}{xs acc r}{K:aa DV->Rw->Prop}{E}(q:(gn aW xs acc r).wp K E):(gn aW xs acc r).wp K λU U=>False:=by
 induction xs generalizing acc r with
 |nil=>exact q
 |cons d xs ih=>
  show((aW d r).uo.bind _).wp _ _
  have q:((aW d r).uo.bind λa r'=>gn aW xs (acc++a) r').wp K E:=q
  cases e:aW d r with
  |c a r'=>rw[e]at q;exact ih q
  |e m r'=>rw[e]at q;exact q.elim
  |d=>rw[e]at q;exact q.elim
theorem S.O9(K:m3 F.au F.Λ scope i x)(hs: ∀x,cH iter F.au x=pure x)(hI:SI F iter z)
  (hT: ∀cl C,SB (F.fI scope cl C<|dg F.Λ scope.names i x) (lj ifs<|fb scope cl C F.au) t) (hE: ∀cl C,SE (F.fI scope cl C<|dg F.Λ scope.names i x) elt y):
  S F VO (eval (.ListComp elt [⟨.Name x px,iter,ifs,0⟩] scope pos) F.au) (λδ r=>(z δ r).bind λxs r=>(gn (JO t y δ i) xs [] r).bind λacc r=>.c (.c acc) r):=λP r s Q E G q=>by
 obtain⟨cl,cs⟩:=mH G.ev K.free K.md
 rw[afO]
 refine hV (use:=none) rfl hs cs.eq K.kind K.names<|aq (hI P r s _ E G<|bc.de q) (λxv s₁ h₁=>aq h₁ (λit s₂ h₂=>?_) λU U e=>e) λU U e=>e
 obtain⟨D,T2,q2⟩:=h₂
 obtain⟨OF,it,nR,hl⟩:=D
 refine aK OF ?_
 exact Bu (RR:=GW F.M F.A (PX F s E) none<|PV F (VO F.c P.H) s Q) (Kf:=λacc r=>Q (.c acc) r) K cs (hT cl) (hE cl) G T2 nR it hl (rj<|bc.de q2) λD C s' r' acc V qk=>V.eM G.wd qk
end
noncomputable def Pa(m ps:aa (aa av×DV)):aa (aa av×DV):=ps.foldl (λm p=>qQ p.1 p.2 m) m
theorem Pb{l:aa av}{v:DV}{es:aa (aa av×DV)}(h:l∉es.map (λx=>x.1)):qQ l v es=es++[(l,v)]:=by
 induction es with
 |nil=>rfl
 |cons p r ih=>
  rw[dK,a0,not_or]at h
  refine aK vM<|aK (aN λz=>h.1 z.symm)<|aK (ih h.2) ?_
  rfl
theorem E2{ps m:aa (aa av×DV)}(h:((m++ps).map<|λx=>x.1).Nodup):Pa m ps=m++ps:=by
 induction ps generalizing m with
 |nil=>exact(bI m).symm
 |cons p r ih=>
  have e:m++p::r=(m++[p])++r:=by rw[eU];rfl
  have hn:p.1∉m.map (λx=>x.1):=by
   rw[mB]at h
   exact λz=>(fJ.mp h).2.2 p.1 z p.1 (.head _) rfl
  show Pa (qQ p.1 p.2 m) r=_
  exact aK (Pb hn)<|aK (ih<|e▸h)<|aK e.symm rfl
set_option tactic.hygienic true in
theorem E3(e:mU acc=some ps):mU (acc++[.g [.d l,v]])=some (ps++[(l,v)]):=by
 induction acc generalizing ps with
 |nil=>cases e;rfl
 |cons x r ih=>
  have e:(x.eN.bind λp=>match p with
   |[]=>none
   |k::p=>jx p λv=>on k.fH (mU r) λk r=>some ((k,v)::r))=some ps:=e
  obtain⟨e1,e⟩:=bind_some e
  show(x.eN.bind λp=>match p with
   |[]=>none
   |k::p=>jx p λv=>on k.fH (mU (r++[_])) λk r=>some ((k,v)::r))=_
  refine aK e1 ?_
  rename_i p
  cases p with
  |nil=>exact nn e
  |cons k p=>
   obtain⟨e2,e⟩:=pp e
   refine aK e2 ?_
   obtain⟨e3,e4,e⟩:=cj e
   cases e
   show on k.fH (mU<|r++[_]) _=_
   refine aK e3<|aK (ih e4) ?_
   rfl
inductive DB(c:Cx)(H:az->Prop)(D:az)(h:cy)(acc:aa DV):Prop
 |mk {ps} {kvs:aa (aa av×ak)} (e:mU acc=some ps) (hd:h.DictOf (eQ c.prog c.w) D (kvs.map λp=>(br p.1,p.2))) (hs:j7 c H h kvs (Pa [] ps)) (hl:kvs.length<=acc.length)
theorem DB.keep{H:az->Prop}(x:DB c H D h acc)(k: ∀o,h.get? D=some o->h'.get? D=some o)(f:mF H h h'):DB c H D h' acc:=by
 refine aU λG9 k9=>?_
 obtain⟨e,⟨o,es,ep,eo,r⟩,hs,hl⟩:=x
 refine k9 ?_
 exact⟨e,⟨o,es,ep,k _ eo,r⟩,j7.aW f (.cm _ _) hs,hl⟩
theorem DB.Xu{H H':az->Prop}(x:DB c H D h acc)(l: ∀b,H' b->H b)(hm:(D==f5)=false)(e:((mU acc).bind λes=>gL (decide (n<=99)&&decide (es.map<|λx=>x.1).Nodup)<|DV.h es)=some es)(hn:acc.length<=n):ii c H' h (.ref D) es [D]:=by
 obtain⟨e1,hd,hs,hl⟩:=x
 obtain⟨e2,e⟩:=bind_some e
 cases e1.symm.trans e2
 have b:=yl<|eh e
 refine aK (dT e) ?_
 rw[E2 (m:=[]) b.2]at hs
 obtain⟨ep,hd⟩:=hd.dictAt
 exact tP.mk rfl rfl hm hd (ao hl<|ao hn b.1)<|j7.aW (.cm _ _) (.f9 l) hs
inductive aak(c:Cx)(H:az->Prop)(D:az)(s:af)(acc:aa DV)(s':af):Prop
 |mk {h' tk} (e:s'={s with heap:=h',toks:=tk}) (sb:bj D s.heap h') (Bt: ∃o,s.heap.get? D=some o/\ ¬eJ o) (is: ∃o,h'.get? D=some o) (b:DB c H D h' acc)
theorem DB.HE{H:az->Prop}{RE:ak->af->Prop}(x:DB c H D s.heap acc)(hH:H D)(hk:kv=.str (br l) t)(cv:dm c H s.heap vv y)(hz:acc.length<=9999):
  wpAny (model c.prog c.w) A (dictSet D kv vv) (λU s'=>aak c H D s (acc++[.g [.d l,y]]) s') RE s:=by
 refine aK hk ?_
 refine aU λG9 k9=>?_
 obtain⟨e,hd,hs,hl⟩:=x
 obtain⟨o1,_,_,eo1,Y9,hc1,_⟩:=id hd
 refine k9 ?_
 refine wpAny_dictSet_pairs (k:=br l) (by simp[eQ,Value.isStrOf]) hd (λh' d' sb=>?_) (by rw[aw];exact dD<|ao hl<|ao hz (by decide))
 have kf:=mF.mG sb hH
 refine aU λG9 k9=>?_
 obtain⟨kvs',e1,e2,e3⟩:=j7.HE (g:=br) (λU U z=>og.mp z) (j7.aW kf (.cm _ _) hs) (qd hd) (k:=l)<|cv.g9 kf
 refine k9 ?_
 replace d':=e1▸d'
 refine aU λG9 k9=>?_
 obtain⟨o2,_,_,eo2,_⟩:=id d'
 refine k9 ?_
 refine⟨rfl,sb,⟨o1,eo1,ut hc1⟩,⟨o2,eo2⟩,.mk (E3 e) d' ?_ (by rw[aP];exact ao e3<|fy hl)⟩
 show j7 c H h' kvs' (A8 _ _ _)
 rw[NW]
 exact e2
noncomputable abbrev JQ(kk y:Dl->Rw->bc DV)(δ:Dl)(i:av)(d:DV)(r:Rw):bc (aa DV):=(kk (δ.set i<|some d) r).bind λkv r=>(bc.fG kv.fH r).bind λl r=>(y (δ.set i<|some d) r).bind λvv r=>.c [.g [.d l,vv]] r
section
variable{F:Fx}{P:Pt}{r r0 r1:Rw}{s s0 s1 s2:af}{E:aa av->Rw->Prop}{RE:ak->af->Prop}{h h':cy}
theorem Bv(O:F.c.Ok){RR:ak->az->tq->af->Prop}{Kf:DV->Rw->Prop}(K:m3 F.au F.Λ scope i x)(cs:rh F.au scope cl)
  (hK: ∀C,SE (F.fI scope cl C<|dg F.Λ scope.names i x) kx kk) (hE: ∀C,SE (F.fI scope cl C<|dg F.Λ scope.names i x) vx y)
  (G0:Gd F P r0 s0) (T2:gc F r s0 s2) (nR:s0.heap.get? I=none) (it:jV F.c (λb=>P.H b\/b=I) s2.heap I xs 0) (hlen:xs.length<=9999)
  (q:(gn (JQ kk y P.δ i) xs [] r).wp (λacc r=>(EI xs.length acc r).wp Kf λU U=>cC) λU U=>cC) (hRR: ∀D C s r d,HP F P s0 D C d r s->Kf d r->RR (.ref D) C (.ok .next) s):
  wpAny F.M F.A newDict (λacc s₃=>wpAny F.M F.A (GS scope F.au.globals cl [] F.au.qual none .none (some F.au)) (λcenv s₄=>
   cW F.M F.A (.compStart (.DictComp kx vx [⟨.Name x px,iter,[],0⟩] scope pos) 0 (.ref I) acc {cenv with scope:=YR scope F.au}) (RR acc cenv.locals) s₄) RE s₃) RE s2:=by
 refine qU<|nG K.oU (by intro y hy;simp at hy) (λh₁ hns sb=>?_) K.kind
 have L:=yF hns sb<|aR _ rfl
 have G2:=G0.kG T2
 have hm:=T2.wd.vH O
 refine bN it.obj λoI h9=>cK h9 λeI U=>?_
 have core: ∀(D C:az) (h₁:cy) tk,(D==f5)=false->Y8 s2.heap h₁ D C {cls:=.type "dict",data:=.dict #[]}->(∃m,h₁.Ns C m)->h₁.DictOf (eQ F.c.prog F.c.w) D []->cW F.M F.A (.compStart (.DictComp kx vx [⟨.Name x px,iter,[],0⟩] scope pos) 0 (.ref I) (.ref D)<|fb scope cl C F.au) (RR (.ref D) C) {s2 with heap:=h₁,toks:=tk}:=by
  intro D C h₁ tk hm L hn hd
  refine bN hn λm hn=>?_
  have JP:=CY (Λ:=dg F.Λ scope.names i x) (B:=DB F.c (iJ P I D C) D) (scope:=scope) G0 T2 nR ⟨oI,eI⟩ cs.of L λh h' acc k f b=>b.keep k f
  have V0:=CZ (B:=DB F.c (iJ P I D C) D) (tk:=tk) (acc:=[]) G0 T2 nR it cs.of L (yE G2.ev K cs L.pq hn) (λj z v e=>(fT z).trans e) (P.δ.set i none) (λj d e=>mI e)<|.mk (kvs:=[]) rfl hd .nil<|bD _
  have loop: ∀s3,CS (F.fI scope cl C<|dg F.Λ scope.names i x) (iJ P I D C) (DB F.c (iJ P I D C) D) s0 I xs 0 (P.vs.set i none) (P.δ.set i none) r [] s3->
    cW F.M F.A (.compLoop (.DictComp kx vx [⟨.Name x px,iter,[],0⟩] scope pos) 0 (.ref I) (.ref D)<|fb scope cl C F.au) (RR (.ref D) C) s3:=λs3 V=>by
   refine codeAny_compLoop_testsD (LV (F.fI scope cl C<|dg F.Λ scope.names i x) (iJ P I D C) (DB F.c (iJ P I D C) D) s0 I xs i P.vs P.δ (JQ kk y P.δ i) _ 0 1) (λn s hI=>?_) xs.length<|.mk (k:=0) rfl V q<|bD _
   refine r8 (F:=F.fI scope cl C (dg F.Λ scope.names i x)) (w:=0) (wd:=1) (body:=λP' s₂=>wpAny F.M F.A (lj [] (fb scope cl C F.au)) (λok s₃=>if ok=true then wpAny F.M F.A (eval kx (fb scope cl C F.au)) (λkv s₄=>wpAny F.M F.A (eval vx (fb scope cl C F.au)) (λvv s₅=>
       wpAny F.M F.A (dictSet D kv vv) (λU s₆=>P' s₆) _ s₅) _ s₄) _ s₃ else P' s₃) _ s₂) JP (ri K.slot) (nJ K.var) (λk d r s acc v K' P' V q hw hk hP=>?_) (λr s acc o G T b qk ha=>?_) hI
   ·refine aD ?_
    show wpAny _ _ _ _ _ _
    refine aq ((hK C).Aw V.g (bc.de q) λkv d' s1 r1 ck G1 T1 q1=>?_) (λU U z=>z) λU U p=>p.no
    obtain⟨e1,q1⟩:=bc.dU<|bc.de q1
    refine bN (ck.fH e1) λtl h9=>cK h9 λLD U=>?_
    refine aK LD ?_
    refine aq ((hE C).Aw G1 (bc.de q1) λvv y s2 r2 D1 G2 T2 q2=>?_) (λU U z=>z) λU U p=>p.no
    have V2:=(V.kG JP T1).kG JP T2
    refine aq (V2.b.HE (JP.hH D<|.inl rfl) (t:=tl) rfl D1 (by rw[kU,ty]at hw;exact ao (Ss hw)<|ao hk hlen)) (λw s3 p=>?_) λU U z=>z
    obtain⟨aal,sb,Bt,is,b⟩:=p
    refine aK aal ?_
    exact hP _ r2 _ (V2.HE JP rfl sb Bt is b) q2<|bK _
   ·refine bN G.ev.ns λm h9=>cK h9 λhn U=>?_
    obtain⟨e,qk⟩:=bc.dU qk
    refine hRR D C s r _ ⟨⟨T.wd,T.kp,T.same⟩,T2.kp.dp L.nD,T2.kp.dp L.nC,L.DC,⟨m,hn⟩,b.Xu (λb q=>q.elim (λq=>q.imp id λq=>.inr<|.inl<|bh.mp q) λq=>.inr<|.inr<|.inr q) hm e (by rw[kU,ty]at ha;exact ha)⟩ qk
  exact codeAny_compStart_dict (loop _ V0)<|V0.it.j8<|loop _ V0
 exact core _ _ _ _ hm L ⟨_,hns⟩ ((pa s2.heap).at λo e=>by
  replace e:=((aR _ rfl)).symm.trans e
  cases e
  exact L.oD)
theorem S.Pc(O:F.c.Ok)(K:m3 F.au F.Λ scope i x)(hs: ∀x,cH iter F.au x=pure x)(hI:SI F iter z)
  (hK: ∀cl C,SE (F.fI scope cl C<|dg F.Λ scope.names i x) kx kk) (hE: ∀cl C,SE (F.fI scope cl C<|dg F.Λ scope.names i x) vx y):
  S F VO (eval (.DictComp kx vx [⟨.Name x px,iter,[],0⟩] scope pos) F.au) (λδ r=>(z δ r).bind λxs r=>(gn (JQ kk y δ i) xs [] r).bind λacc r=>EI xs.length acc r):=λP r s Q E G q=>by
 obtain⟨cl,cs⟩:=mH G.ev K.free K.md
 rw[arm_eval_DictComp]
 refine hV (use:=none) rfl hs cs.eq K.kind K.names<|aq (hI P r s _ E G<|bc.de q) (λxv s₁ h₁=>aq h₁ (λit s₂ h₂=>?_) λU U e=>e) λU U e=>e
 obtain⟨D,T2,q2⟩:=h₂
 obtain⟨OF,it,nR,hl⟩:=D
 refine aK OF ?_
 exact Bv O (RR:=GW F.M F.A (PX F s E) none (PV F (VO F.c P.H) s Q)) (Kf:=Q) K cs (hK cl) (hE cl) G T2 nR it hl (bc.Jw (rj (bc.de q2)) (λacc r q=>by
  obtain⟨e,q⟩:=bc.dU q
  show(bc.fG _ _).wp _ _
  rw[e];exact q) λU U z=>z) λD C s' r' d V qk=>V.eM G.wd qk
end
def H0(F:Fx)(b:az):Prop:=b∈jU F.du\/yi F.au b\/Xe F.c b
structure Zs where
 F:Fx
 ex:az->Prop
 sG:ag ak
def H1(Z:Zs)(b:az):Prop:=H0 Z.F b\/Z.ex b
def HO(Z:Zs)(O:av->aa az)(b:az):Prop:=H1 Z b\/ ∃i,b∈O i
def XO(Z:Zs)(O:av->aa az)(b:az):Prop:=Xe Z.F.c b\/yi Z.F.au b\/ ∃i,b∈O i
def fq(O O':av->aa az)(s:af):Prop:= ∀i b,b∈O' i->(∃j,b∈O j)\/s.heap.get? b=none
structure PlS(Z:Zs)(b:az):Prop where
 cV:Z.F.c.cV.get? b=none
 gQ: ¬H1 Z b
structure eK(Z:Zs)(O:av->aa az)(vs:aa (ag ak))(δ:Sl)(r:Rw)(s:af):Prop where
 g:Gd Z.F ⟨HO Z O,vs,bU δ⟩ r s
 nF: ∀(i:av) d,δ[i]?=some (some (true,d))-> ∃v,vs[i]?=some (some v)/\nQ Z.F.c (HO Z O) s.heap v d (O i)
 E4: ∀i j b,b∈O i->b∈O j->i=j
 pl: ∀i b,b∈O i->PlS Z b
 sG: ∀v d,Z.sG=some v->δ[0]?=some (some (true,d))->vs[0]?=some (some v)
structure StX(F:Fx)(X:az->Prop)(r:Rw)(s s':af):Prop where
 wd:Wd F.c r s'
 kp:Kp X (jU F.du) s.heap s'.heap
 same: ∃h tk,s'={s with heap:=h,toks:=tk}
abbrev oh(Z:Zs)(O:av->aa az)(r:Rw)(s s':af):Prop:=StX Z.F (XO Z O) r s s'
structure SK where
 N:Sl->Rw->Prop
 R:DV->Rw->Prop
 W:DV->Rw->Prop
 E:aa av->Rw->Prop
def SR.wp(x:SR)(K:SK):Prop:=
 match x with
 |.a δ r=>K.N δ r
 |.b d r=>K.R d r
 |.g d r=>K.W d r
 |.c m r=>K.E m r
 |.e=>cC
inductive oj(Z:Zs)(O:av->aa az)(s:af)(N:Sl->Rw->Prop)(s':af):Prop
 |mk {O' vs δ r} (V:eK Z O' vs δ r s') (T:oh Z O r s s') (u:fq O O' s) (q:N δ r)
inductive HQ(Z:Zs)(O:av->aa az)(s:af)(K:SK)(v:ak)(s':af):Prop
 |val {d r} (D:dm Z.F.c (H1 Z) s'.heap v d) (T:oh Z O r s s') (q:K.R d r)
 |nF {d r L} (D:nQ Z.F.c (HL (H1 Z) L) s'.heap v d L) (n: ∀b∈L,(∃j,b∈O j)\/s.heap.get? b=none) (T:oh Z O r s s') (q:K.W d r)
def mf(Z:Zs)(O:av->aa az)(s:af)(K:SK)(f:Ta)(s':af):Prop:=
 match f with
 |.next=>oj Z O s K.N s'
 |.ret v=>HQ Z O s K v s'
 |.brk=>cC
 |.cont=>cC
inductive xJ(Z:Zs)(O:av->aa az)(s:af)(E:aa av->Rw->Prop)(e:ak)(s':af):Prop
 |mk {x m r st dx vs mm t} (he:e=.ref x) (X:Bm Z.F.c s'.heap s.heap x m st dx vs mm t) (T:oh Z O r s s') (q:E m r) (hd:yj Z.F st) (cE:s'.heap.FunFrames {} Z.F.du)
def T(Z:Zs)(t:xt Ta)(x:Sl->Rw->SR):Prop:=
 ∀O vs δ r s K,eK Z O vs δ r s->(x δ r).wp K->wpAny Z.F.M Z.F.A t (mf Z O s K) (xJ Z O s K.E) s
section
variable{Z:Zs}{O O1:av->aa az}{vs:aa (ag ak)}{δ:Sl}{r r1 r2:Rw}{s s1 s2:af}{K:SK}{E:aa av->Rw->Prop}
theorem fq.cm(O s):fq O O s:=λi U m=>.inl ⟨i,m⟩
theorem oh.cm(W:Wd Z.F.c r s):oh Z O r s s:=⟨W,.cm ..,⟨s.heap,s.toks,rfl⟩⟩
theorem oh.seq(a:oh Z O r1 s s1)(u:fq O O1 s)(b:oh Z O1 r2 s1 s2):oh Z O r2 s s2:=⟨b.wd,a.kp.trans b.kp λx q=>by
 rcases q with q|q|⟨i,m⟩
 ·exact .inl<|.inl q
 ·exact .inl<|.inr<|.inl q
 ·exact(u i x m).imp (λq=>.inr (.inr q)) id,df a.same b.same⟩
theorem fq.trans(a:fq O O1 s)(T:oh Z O r1 s s1)(b:fq O1 O2 s1):fq O O2 s:=λi x m=>by
 rcases b i x m with⟨j,m⟩|e
 ·exact a j x m
 ·exact .inr<|T.kp.dp e
theorem oh.of(T:gc Z.F r s s1):oh Z O r s s1:=⟨T.wd,T.kp.yf λU=>.inl,T.same⟩
theorem xJ.hF(T:oh Z O r1 s s1)(u:fq O O1 s)(p:xJ Z O1 s1 E e s2):xJ Z O s E e s2:=by
 obtain⟨he,X,T',q,hd,th⟩:=p
 exact⟨he,X.le λU=>T.kp.dp,T.seq u T',q,hd,th⟩
theorem oj.hF{N:Sl->Rw->Prop}(T:oh Z O r1 s s1)(u:fq O O1 s)(p:oj Z O1 s1 N s2):oj Z O s N s2:=by
 obtain⟨V,T',u',q⟩:=p
 exact⟨V,T.seq u T',u.trans T u',q⟩
theorem mf.hF(T:oh Z O r1 s s1)(u:fq O O1 s)(p:mf Z O1 s1 K f s2):mf Z O s K f s2:=by
 cases f with
 |next=>exact oj.hF T u p
 |ret v=>
  cases p with
  |val D T' q=>exact .val D (T.seq u T') q
  |nF D n T' q=>exact .nF D (λb m=>by
    rcases n b m with⟨j,m⟩|e
    ·exact u j b m
    ·exact .inr (T.kp.dp e)) (T.seq u T') q
 |brk=>exact p.elim
 |cont=>exact p.elim
theorem C0(T:oh Z O r1 s s1)(u:fq O O1 s)(h:wpAny Z.F.M Z.F.A t (mf Z O1 s1 K) (xJ Z O1 s1 K.E) s1):wpAny Z.F.M Z.F.A t (mf Z O s K) (xJ Z O s K.E) s1:=
 aq h (λU U p=>p.hF T u) λU U p=>p.hF T u
theorem eK.px(G:Gd Z.F P r s)(p:PX Z.F s E e s1):xJ Z O s E e s1:=by
 obtain⟨he,X,T,q,hd⟩:=p
 exact⟨he,X,.of T,q,hd,(G.kG T).er.cE⟩
theorem fE(V:eK Z O vs δ r s)(m:b∈O i): ¬Xe Z.F.c b/\b∉jU Z.F.du/\ ¬yi Z.F.au b:=
 ⟨λx=>(V.pl i b m).gQ<|.inl<|.inr<|.inr x,λx=>(V.pl i b m).gQ<|.inl<|.inl x,λx=>(V.pl i b m).gQ<|.inl<|.inr<|.inl x⟩
theorem eK.kG(V:eK Z O vs δ r s)(T:gc Z.F r1 s s1):eK Z O vs δ r1 s1:=
 ⟨V.g.kG T,λi d e=>by
  refine bN (V.nF i d e) λv h9=>cK h9 λe1 D=>?_
  exact⟨v,e1,D.aW (V.g.g9 T) (.cm _ _) λa m o e=>T.kp.pq a o e (fE V m).1 (fE V m).2.1⟩,V.E4,V.pl,V.sG⟩
theorem Gd.few{H2:az->Prop}(G:Gd F P r s)(l: ∀b,H2 b->P.H b)(h0: ∀b,H0 F b->H2 b)(O6: ∀(i:av) d,fM δ' i=some d-> ∃v,P.vs[i]?=some (some v)/\dm F.c H2 s.heap v d):Gd F ⟨H2,P.vs,δ'⟩ r s:=
 ⟨G.wd,⟨G.er.frames,G.er.cE,λb m=>⟨h0 b<|.inl m,(G.er.apart b m).2⟩,G.er.depth,G.er.units,G.er.handled⟩,G.ev,λb q=>⟨h0 b<|.inr<|.inl q,(G.ic b q).2⟩,λb q=>h0 b<|.inr<|.inr q,λb q=>G.iu b<|l b q,O6⟩
theorem gj:fM (bU δ) i=some d↔δ[i]?=some (some (false,d)):=by
 unfold fM bU
 rw[bl]
 cases δ[i]? with
 |none=>exact⟨λe=>nn e,λe=>nn e⟩
 |some o=>
  cases o with
  |none=>exact⟨λe=>nn e,λe=>nn<|am e⟩
  |some p=>
   obtain⟨b,x⟩:=p
   cases b with
   |true=>exact⟨λe=>nn e,λe=>by cases e⟩
   |false=>exact⟨λe=>by cases e;rfl,λe=>by cases e;rfl⟩
theorem TU(h:fM (b4 δ) i=some d): ∃b,δ[i]?=some (some (b,d)):=by
 unfold fM b4 at h
 replace h:=(bl)▸h
 cases e:δ[i]? with
 |none=>rw[e]at h;exact nn h
 |some o=>
  replace h:=e▸h
  cases o with
  |none=>exact nn h
  |some p=>
   obtain⟨b,x⟩:=p
   cases h
   exact⟨b,rfl⟩
theorem eK.LW(V:eK Z O vs δ r s):Gd Z.F ⟨H1 Z,vs,b4 δ⟩ r s:=
 V.g.few (λU=>.inl) (λU q=>.inl q) λi d e=>by
  refine bN (TU e) λb e=>?_
  cases b with
  |false=>
   refine bN (V.g.nB i d<|gj.mpr e) λv h9=>cK h9 λe1 D=>?_
   exact⟨v,e1,D.aW (.cm _ _)<|.f9 λU=>.inl⟩
  |true=>
   refine bN (V.nF i d e) λv h9=>cK h9 λe1 D=>?_
   exact⟨v,e1,D.nB (λU=>.inl) λa m=>(V.pl i a m).gQ⟩
theorem C1(b:aM)(h:(rd δ)[i]?=some (some (b,d))):b=false/\fM (b4 δ) i=some d:=by
 unfold rd at h
 replace h:=((bl)).symm.trans h
 unfold fM b4
 rw[bl]
 cases e:δ[i]? with
 |none=>rw[e]at h;exact nn h
 |some o=>
  replace h:=e▸h
  cases o with
  |none=>exact nn<|am h
  |some p=>cases h;exact⟨rfl,rfl⟩
noncomputable abbrev O0:av->aa Addr:=λU=>[]
theorem Xv:HO Z O0 b↔H1 Z b:=⟨λq=>q.elim id λq=>by obtain⟨i,m⟩:=q;exact(nomatch m),.inl⟩
theorem eK.rel(G:Gd Z.F ⟨H1 Z,vs,b4 δ⟩ r s):eK Z O0 vs (rd δ) r s:=by
 refine⟨⟨G.wd,⟨G.er.frames,G.er.cE,λb m=>⟨.inl (G.er.apart b m).1,(G.er.apart b m).2⟩,G.er.depth,G.er.units,G.er.handled⟩,G.ev,λb q=>⟨.inl (G.ic b q).1,(G.ic b q).2⟩,λb q=>.inl<|G.hx b q,λb q=>G.iu b<|Xv.mp q,λi d e=>?_⟩,λi d e=>?_,λi j b m=>(nomatch m),λi b m=>(nomatch m),λv d U e=>absurd (C1 true e).1 (by simp)⟩
 ·obtain⟨v,e1,D⟩:=G.nB i d (C1 false<|gj.mp e).2
  exact⟨v,e1,D.aW (.cm _ _)<|.f9 λb=>Xv.mp⟩
 ·exact absurd (C1 true e).1 (by simp)
theorem Pd{H H':az->Prop}(hs:bA d=true)(D:dm c H h v d):dm c H' h v d:=by
 have V:=D.pk
 cases d with
 |f=>cases V;exact .none
 |j b=>cases V;exact .bool b
 |a i=>obtain⟨t,rfl⟩:=V;exact .int i t
 |d l=>obtain⟨t,rfl,hl⟩:=V;exact .str l t hl
 |_=>exact ff hs
end
structure m4(F:Fx)(P:Pt)(i:av)(v:ak)(r:Rw)(s s2:af):Prop where
 g:Gd F ⟨P.H,P.vs.set i<|some v,P.δ.set i none⟩ r s2
 kp:Kp (λb=>Xe F.c b\/yi F.au b) (jU F.du) s.heap s2.heap
 same: ∃h tk,s2={s with heap:=h,toks:=tk}
def Bw(D:Dk)(F:Fx)(i:av)(t:xt Ta)(x:Dl->Rw->bc DV):Prop:=
 ∀P r s Q E (R:Ta->af->Prop),Gd F P r s->(x P.δ r).wp Q E->(∀v d s2 r2,D F.c P.H s s2 v d->m4 F P i v r2 s s2->Q d r2->R .next s2)->wpAny F.M F.A t R (PX F s E) s
def JR(D:Dk):Prop:= ∀c H (s s1:af) h' tk v d,D c H s s1 v d->mF H s1.heap h'->(∀b o,s.heap.get? b=none->s1.heap.get? b=some o->h'.get? b=some o)->D c H s {s1 with heap:=h',toks:=tk} v d
theorem Pe:JR VD:=λc H s s1 h' tk v d D f U=>D.g9 f
theorem aan:JR VO:=λc H s s1 h' tk v d D f n=>by
 refine bN D λL h9=>cK h9 λD k=>?_
 exact⟨L,D.aW (λb o e z=>f b o e λq=>z<|.inl q) (.cm _ _) λa m o e=>n a o (k a m) e,k⟩
theorem E5:JR VW:=λc H s s1 h' tk v d D f n=>by
 refine bN D λL h9=>cK h9 λD k=>?_
 exact⟨L,D.aW (λb o e z=>f b o e λq=>z<|.inl q) (.cm _ _) λa m o e=>n a o (k a m) e,k⟩
section
variable{F:Fx}{P:Pt}{r r1 r2:Rw}{s s1 s2:af}{E:aa av->Rw->Prop}{x:Dl->Rw->bc DV}{D:Dk}
theorem m4.of(G1:Gd F P r1 s1)(T1:gc F r1 s s1)(K:Pok F.au s1.heap h' a)(V:iI F.au F.Λ (P.vs.set i<|some v) h'):m4 F P i v r1 s {s1 with heap:=h',toks:=tk}:=by
 refine aU λG9 k9=>?_
 obtain⟨h1,h2,h3⟩:=G1.ic a K.ic
 obtain⟨o,e,n⟩:=K.Bt
 obtain⟨o',e',n'⟩:=K.is
 refine k9 ?_
 refine⟨G1.Xr h1 h2 h3 K.sb ⟨o,e,mr n⟩ ⟨o',e',λU=>n'⟩ V λj d' e=>?_,(T1.kp.yf λU=>.inl).seq<|.mG K.sb ⟨o',e'⟩<|.inr K.ic,df T1.same ⟨_,_,rfl⟩⟩
 refine aU λG9 k9=>?_
 obtain⟨q,e⟩:=mI e
 obtain⟨u,e1,D1⟩:=G1.nB j d' e
 refine k9 ?_
 exact⟨u,(fT q).trans e1,D1.g9<|.mG K.sb h1⟩
theorem S.Za(hD:JR D)(h:S F D (eval e F.au) x)(hsw:dB e (some<|.Name y py) pos.line F.au=pure false)(gv:F.Λ[i]?=some (some y))(hk:F.au.kindOf y=some .local\/F.au.kindOf y=some .cell):
  Bw D F i (exec (.Assign [.Name y py] e pos) F.au) x:=λP r s Q E R G q k=>
 wpAny_Assign_Name (h.Aw G q λv d s1 r1 D G1 T1 q1=>kh G1.ev gv hk λh' tk a K U V=>k v d _ r1 (hD _ _ _ _ _ _ _ _ D (.mG K.sb (G1.ic a K.ic).1) λb o n e=>(K.sb.2 b λz=>by
  refine bN (G.iu a (G.ic a K.ic).1) λo1 e1=>?_
  exact nn (n.symm.trans (z▸e1))).trans e) (.of G1 T1 K V) q1) hsw
theorem Bw.LG(h:Bw D F i t x)(k: ∀c H s s' v d,(∀b,H b-> ∃o,s.heap.get? b=some o)->D c H s s' v d->dm c H s'.heap v d):Bw VD F i t x:=λP r s Q E R G q kk=>h P r s Q E R G q λv d s2 r2 D A q=>kk v d s2 r2 (k _ _ _ _ _ _ G.iu D) A q
theorem Bw.yf(h:Bw VO F i t x):Bw VW F i t x:=λP r s Q E R G q kk=>h P r s Q E R G q λv d s2 r2 D A q=>kk v d s2 r2 (by
 refine bN D λL h9=>cK h9 λD n=>?_
 exact⟨L,.inl D,n⟩) A q
end
theorem nQ.cE{H:az->Prop}(x:nQ c H h v d L): ∀b∈L,∃o,h.get? b=some o:=λb m=>by
 rcases x with x|⟨vk,vi,va,kd,it,cx,e,ed,rfl,nd,ho,hm,hf,hk,hi,ha⟩
 ·exact x.jx.2 b m
 ·rcases a0.mp m with rfl|m
  ·exact⟨_,ho⟩
  rcases a0.mp m with rfl|m
  ·exact hm.obj
  ·exact(cY.mp m).elim (hi.jx.2 b)<|ha.jx.2 b
section
variable{Z:Zs}{O:av->aa az}{vs:aa (ag ak)}{δ:Sl}{r r1 r2:Rw}{s s1 s2:af}{K:SK}{E:aa av->Rw->Prop}{x:Dl->Rw->bc DV}{i:av}{t:xt Ta}
noncomputable def iK(O:av->aa az)(i:av)(L:aa az)(j:av):aa Addr:=if j=i then L else O j
theorem e9(m:b∈iK O i L j):(j=i/\b∈L)\/(j≠i/\b∈O j):=by
 unfold iK at m
 split at m
 ·exact .inl ⟨‹_›,m⟩
 ·exact .inr ⟨‹_›,m⟩
theorem jN:iK O i L i=L:=aJ rfl
theorem qf(h:j≠i):iK O i L j=O j:=aN h
theorem tS(q:HO Z (iK O i L) b):HL (HO Z O) L b:=by
 rcases q with q|⟨j,m⟩
 ·exact .inl<|.inl q
 ·rcases e9 m with⟨_,m⟩|⟨_,m⟩
  ·exact .inr m
  ·exact .inl<|.inr ⟨j,m⟩
theorem eK.re(hi:i<vs.length)(V:eK Z O vs δ r s){H1:az->Prop}(A:m4 Z.F ⟨H1,vs,uf⟩ i v r2 s s2)(nL: ∀b∈L,s.heap.get? b=none)(hL: ∀b∈L,∃o,s2.heap.get? b=some o)
  (hd:p.1=false->dm Z.F.c (HO Z<|iK O i L) s2.heap v p.2) (ho:p.1=true->nQ Z.F.c (HO Z<|iK O i L) s2.heap v p.2 L) (hp:p.1=true->i=0->Z.sG=none):eK Z (iK O i L) (vs.set i<|some v) (δ.set i<|some p) r2 s2:=by
 have G:=A.g
 have h0: ∀b,H0 Z.F b->HO Z O b:=λU q=>.inl<|.inl q
 have fx:mF (HO Z O) s.heap s2.heap:=A.kp.g9 (λb q=>h0 b<|q.elim (λq=>.inr<|.inr q) λq=>.inr<|.inl q) λb q=>h0 b<|.inl q
 have up:qR (HO Z O) (HO Z<|iK O i L) s.heap:=λb q=>(tS q).imp id<|nL b
 have sl: ∀j b p',(δ.set i<|some p)[j]?=some (some (b,p'))->(j=i/\p=(b,p'))\/(j≠i/\δ[j]?=some (some (b,p'))):=λj b p' e=>by
  rcases fS e with⟨e1,e2⟩|q
  ·exact .inl ⟨e1,e2.symm⟩
  ·exact .inr q
 refine⟨⟨G.wd,⟨G.er.frames,G.er.cE,λb m=>⟨.inl<|.inl<|.inl m,(G.er.apart b m).2⟩,G.er.depth,G.er.units,G.er.handled⟩,G.ev,λb q=>⟨.inl<|.inl<|.inr<|.inl q,(G.ic b q).2⟩,λb q=>.inl<|.inl<|.inr<|.inr q,λb q=>?_,λj d e=>?_⟩,λj d e=>?_,λj k b m m'=>?_,λj b m=>?_,λw d hw e=>?_⟩
 ·exact(tS q).elim (λq=>by
   obtain⟨o,e⟩:=V.g.iu b q
   exact A.kp.cE b o e) (hL b)
 ·rcases sl j _ _ (gj.mp e) with⟨rfl,rfl⟩|⟨z,e⟩
  ·exact⟨v,rg hi,hd rfl⟩
  ·obtain⟨u,e1,D⟩:=V.g.nB j d<|gj.mpr e
   exact⟨u,(fT z).trans e1,D.aW fx up⟩
 ·rcases sl j _ _ e with⟨rfl,rfl⟩|⟨z,e⟩
  ·refine aK jN ?_
   exact⟨v,rg hi,ho rfl⟩
  ·obtain⟨u,e1,D⟩:=V.nF j d e
   refine aK (qf z) ?_
   exact⟨u,(fT z).trans e1,D.aW fx up λa m o e=>A.kp.pq a o e (λq=>(V.pl j a m).gQ<|.inl<|q.elim (λq=>.inr<|.inr q) λq=>.inr<|.inl q) λq=>(V.pl j a m).gQ<|.inl<|.inl q⟩
 ·rcases e9 m with⟨z,m1⟩|⟨z,m1⟩
  ·rcases e9 m' with⟨z',m2⟩|⟨z',m2⟩
   ·exact z.trans z'.symm
   ·obtain⟨o,e⟩:=V.g.iu b<|.inr ⟨k,m2⟩
    exact nn<|(nL b m1).symm.trans e
  ·rcases e9 m' with⟨z',m2⟩|⟨z',m2⟩
   ·obtain⟨o,e⟩:=V.g.iu b<|.inr ⟨j,m1⟩
    exact nn<|(nL b m2).symm.trans e
   ·exact V.E4 j k b m1 m2
 ·rcases e9 m with⟨z,m1⟩|⟨z,m1⟩
  ·have e:=nL b m1
   exact⟨V.g.wd.gb e,λq=>by
    obtain⟨o,e'⟩:=V.g.iu b<|.inl q
    exact nn (e.symm.trans e')⟩
  ·exact V.pl j b m1
 ·rcases sl 0 _ _ e with⟨z,rfl⟩|⟨z,e⟩
  ·exact nn<|(hp rfl z.symm).symm.trans hw
  ·exact(fT z).trans<|V.sG w d hw e
theorem eY{α:Type}{x:bc α}{f:α->Rw->SR}(h:(x.fZ f).wp K):x.wp (λa r=>(f a r).wp K) K.E:=by cases x<;>exact h
theorem xK{α:Type}{x}{plain}{Q:α×Sl->Rw->Prop}(q:(d9 plain x δ r).wp Q E):
  (x (bU δ) r).wp (λd r=>Q (d,δ) r) E\/(x (b4 δ) r).wp (λd r=>Q (d,if plain d=true then δ else rd δ) r) E:=by
 unfold d9 at q
 cases e:x (bU δ) r with
 |c d r1=>rw[e]at q;exact .inl q
 |e m r1=>rw[e]at q;exact .inl q
 |d=>rw[e]at q;exact .inr (bc.de q)
theorem yG:HO Z O0=H1 Z:=funext λU=>propext Xv
theorem Pf(O:av->aa az)(s:af):fq O O0 s:=λi b m=>absurd m (by simp)
theorem eK.qA{α β:Type}{D:Cx->(az->Prop)->af->af->β->α->Prop}{t}{x}{plain}{Q:α×Sl->Rw->Prop}{R:β->af->Prop}(hp: ∀c H H' s s' b d,plain d=true->D c H s s' b d->D c H' s s' b d)(h:S Z.F D t x)(V:eK Z O vs δ r s)(q:(d9 plain x δ r).wp Q E)
  (k: ∀O' δ' b d s1 r1,fq O O' s->eK Z O' vs δ' r s->D Z.F.c (HO Z O') s s1 b d->eK Z O' vs δ' r1 s1->gc Z.F r1 s s1->Q (d,δ') r1->R b s1):wpAny Z.F.M Z.F.A t R (xJ Z O s E) s:=by
 rcases xK q with q|q
 ·exact aq (h.Aw V.g q λb d s1 r1 D1 G1 T1 q1=>k O δ b d s1 r1 (fq.cm _ _) V D1 (V.kG T1) T1 q1) (λU U z=>z) λU U p=>eK.px V.g p
 ·refine aq (h.Aw V.LW q λb d s1 r1 D1 G1 T1 q1=>?_) (λU U z=>z) λU U p=>eK.px V.g p
  by_cases hpl:plain d=true
  ·replace q1:=(aJ hpl)▸q1
   exact k O δ b d s1 r1 (fq.cm _ _) V (hp _ _ _ _ _ _ _ hpl D1) (V.kG T1) T1 q1
  ·replace q1:=(aN hpl)▸q1
   have V0:=eK.rel V.LW
   exact k O0 (rd δ) b d s1 r1 (Pf _ _) V0 (yG▸D1) (V0.kG T1) T1 q1
theorem fq.upd(u:fq O O1 s)(n: ∀b∈L,s.heap.get? b=none):fq O (iK O1 i L) s:=λj b m=>by
 rcases e9 m with⟨_,m⟩|⟨_,m⟩
 ·exact .inr<|n b m
 ·exact u j b m
theorem m4.st(A:m4 Z.F P i v r2 s s2):oh Z O r2 s s2:=⟨A.g.wd,A.kp.yf λb q=>q.imp id .inl,A.same⟩
theorem eK.cx(V:eK Z O vs δ r s)(gv:Z.F.Λ[i]?=some (some y)):i<vs.length:=V.g.ev.cx gv
theorem T.assign{y:b9}(gv:Z.F.Λ[i]?=some (some y))(A:Bw VD Z.F i t x):T Z t (λδ r=>(d9 bA x δ r).fZ λp r=>.a (di p.2 i p.1) r):=λO vs δ r s K V q=>by
 have fin: ∀{O1 δ v d s2 r2 H1 uf},fq O O1 s->eK Z O1 vs δ r s->m4 Z.F ⟨H1,vs,uf⟩ i v r2 s s2->dm Z.F.c (HO Z O1) s2.heap v d->K.N (di δ i d) r2->mf Z O s K .next s2:=λu V A D q=>
  ⟨V.re (L:=[]) (p:=(false,_)) (V.cx gv) A (λU m=>nomatch m) (λU m=>nomatch m) (λU=>D.aW (.cm _ _) (.f9 λb q=>(tS q).elim id λm=>nomatch m)) (λz=>by cases z) (λz=>by cases z),
   A.st,u.upd (λU m=>absurd m (by simp)),q⟩
 rcases xK (eY q) with q|q
 ·exact aq (A _ r s _ _ _ V.g q λv d s2 r2 D A q=>fin (fq.cm _ _) V A D q) (λU U z=>z) λU U p=>eK.px V.g p
 ·refine aq (A _ r s _ _ _ V.LW q λv d s2 r2 D A q=>?_) (λU U z=>z) λU U p=>eK.px V.g p
  by_cases hpl:bA d=true
  ·rw[aJ hpl]at q
   exact fin (fq.cm _ _) V A (Pd hpl D) q
  ·rw[aN hpl]at q
   exact fin (Pf _ _) (eK.rel V.LW) A (yG▸D) q
theorem TV{y y2:bc DV}{f g:DV->Rw->SR}(q:(match y with|.c d r=>f d r|.e m r=>.c m r|.d=>y2.fZ g:SR).wp K):y.wp (λd r=>(f d r).wp K) K.E\/y2.wp (λd r=>(g d r).wp K) K.E:=by
 cases y with
 |c d r=>exact .inl q
 |e m r=>exact .inl q
 |d=>exact .inr (eY q)
theorem T.TW{y:b9}(hp:i=0->Z.sG=none)(gv:Z.F.Λ[i]?=some (some y))(A:Bw VW Z.F i t x):T Z t (λδ r=>match x (bU δ) r with
  |.c d r=>.a (gI δ i d) r
  |.e m r=>.c m r
  |.d=>(x (b4 δ) r).fZ λd r=>.a (gI (rd δ) i d) r):=λO vs δ r s K V q=>by
 have fin: ∀{O1 δ v d s2 r2 H1 uf},fq O O1 s->eK Z O1 vs δ r s->m4 Z.F ⟨H1,vs,uf⟩ i v r2 s s2->VW Z.F.c (HO Z O1) s s2 v d->K.N (gI δ i d) r2->mf Z O s K .next s2:=λu V A D q=>by
  refine bN D λL h9=>cK h9 λD n=>?_
  exact⟨V.re (L:=L) (p:=(true,_)) (V.cx gv) A n D.cE (λz=>by cases z) (λU=>D.aW (.cm _ _) (.f9 λb q=>tS q) λU U U e=>e) (λU=>hp),
   A.st,u.upd n,q⟩
 rcases TV (show SR.wp (match x (bU δ) r with|.c d r=>_|.e m r=>_|.d=>_) K from q) with q|q
 ·exact aq (A _ r s _ _ _ V.g q λv d s2 r2 D A q=>fin (fq.cm _ _) V A D q) (λU U z=>z) λU U p=>eK.px V.g p
 ·exact aq (A _ r s _ _ _ V.LW q λv d s2 r2 D A q=>fin (Pf _ _) (eK.rel V.LW) A (yG▸D) q) (λU U z=>z) λU U p=>eK.px V.g p
end
section
variable{Z:Zs}{O:av->aa az}{vs:aa (ag ak)}{δ:Sl}{r r1 r2:Rw}{s s1 s2:af}{K:SK}{E:aa av->Rw->Prop}{x y z:Dl->Rw->bc DV}{i:av}{t:xt Ta}{RE:ak->af->Prop}
theorem T.nil:T Z (execs [] Z.F.au) (λδ r=>.a δ r):=λO vs δ r s K V q=>iW ⟨V,.cm V.g.wd,fq.cm _ _,q⟩
theorem T.cons{st}{rest}{x y}(h1:T Z (exec st Z.F.au) x)(h2:T Z (execs rest Z.F.au) y):T Z (execs (st::rest) Z.F.au) (λδ r=>(x δ r).seq y):=λO vs δ r s K V q=>by
 refine iq (aq (h1 O vs δ r s {K with N:=λδ r=>(y δ r).wp K} V (by
  show(x δ r).wp _
  have q:((x δ r).seq y).wp K:=q
  cases e:x δ r<;>rw[e]at q<;>exact q)) (λf s1 p=>?_) λU U p=>p)
 cases f with
 |next=>
  obtain⟨V1,T1,u,q1⟩:=p
  exact C0 T1 u<|h2 _ _ _ _ _ K V1 q1
 |ret v=>
  cases p with
  |val D T q=>exact .val D T q
  |nF D n T q=>exact .nF D n T q
 |brk=>exact p.elim
 |cont=>exact p.elim
theorem T.aeq:T Z (exec (.Pass pos) Z.F.au) (λδ r=>.a δ r):=λO vs δ r s K V q=>wpAny_Pass ⟨V,.cm V.g.wd,fq.cm _ _,q⟩
theorem eK.Pg{α β:Type}{D:Cx->(az->Prop)->af->af->β->α->Prop}{t}{x}{Q:α->Rw->Prop}{R:β->af->Prop}(h:S Z.F D t x)(V:eK Z O vs δ r s)(q:(x (b4 δ) r).wp Q E)
  (k: ∀b d s1 r1,D Z.F.c (H1 Z) s s1 b d->gc Z.F r1 s s1->Q d r1->R b s1):wpAny Z.F.M Z.F.A t R (xJ Z O s E) s:=
 aq (h.Aw V.LW q λb d s1 r1 D1 G1 T1 q1=>k b d s1 r1 D1 T1 q1) (λU U z=>z) λU U p=>eK.px V.g p
theorem T.ret{e}{pos}(h:SE Z.F e x):T Z (exec (.Return (some e) pos) Z.F.au) (λδ r=>(x (b4 δ) r).fZ λd r=>.b d r):=λO vs δ r s K V q=>
 jq (V.Pg h (eY q) λb d s1 r1 D T q=>.val D (.of T) q)
theorem T.ite{c}{b e}{pos}{t}{x y}(ht:SB Z.F (jX c Z.F.au<|eval c Z.F.au) t)(h1:T Z (execs b Z.F.au) x)(h2:T Z (execs e Z.F.au) y):
  T Z (exec (.If c b e pos) Z.F.au) (λδ r=>(t (b4 δ) r).fZ λc r=>if c=true then x δ r else y δ r):=λO vs δ r s K V q=>
 wpAny_If (V.Pg ht (eY q) λb d s1 r1 e T q=>by
  cases e
  cases b with
  |true=>exact C0 (.of T) (fq.cm _ _)<|h1 _ _ _ _ _ K (V.kG T) q
  |false=>exact C0 (.of T) (fq.cm _ _) (h2 _ _ _ _ _ K (V.kG T) q))
theorem qB: ∀c H H' (s s':af) b d,bA d=true->VD c H s s' b d->VD c H' s s' b d:=λU U U U U U U h D=>Pd h D
theorem T.expr(hsw:dB e none pos.line Z.F.au=pure false)(h:SE Z.F e x):T Z (exec (.Expr e pos) Z.F.au) (λδ r=>(d9 bA x δ r).fZ λp r=>if cA p.1=true then .a p.2 r else .e):=λO vs δ r s K V q=>by
 refine GQ (V.qA qB h (eY q) λO' δ' b d s1 r1 u U D V1 T q=>?_) (by unfold Ee;rw[V.g.ev.kind];rfl) hsw
 cases d with
 |f=>
  have D:=D.pk
  cases D
  exact⟨V1,.of T,u,q⟩
 |_=>exact q.elim
theorem rk(q:HO Z (iK O i []) b):HO Z O b:=(tS q).elim id λm=>nomatch m
theorem eK.Ph(gv:Z.F.Λ[i]?=some (some X))(V:eK Z O vs δ r s)(D:dm Z.F.c (HO Z O) s.heap v d)(K:Pok Z.F.au s.heap h' a)(EV:iI Z.F.au Z.F.Λ (vs.set i<|some v) h'):eK Z (iK O i []) (vs.set i<|some v) (di δ i d) r {s with heap:=h',toks:=tk}/\oh Z O r s {s with heap:=h',toks:=tk}:=by
 have A:m4 Z.F ⟨HO Z O,vs,bU δ⟩ i v r s {s with heap:=h',toks:=tk}:=.of V.g (.cm V.g.wd) K EV
 have D':=D.g9<|.mG K.sb (V.g.ic a K.ic).1
 exact⟨V.re (L:=[]) (p:=(false,_)) (V.cx gv) A (λU m=>nomatch m) (λU m=>nomatch m) (λU=>D'.aW (.cm _ _)<|.f9 λb=>rk) (λz=>by cases z) (λz=>by cases z),A.st⟩
theorem LX:fq O (iK O i []) s:=(fq.cm O s).upd λU m=>absurd m (by simp)
theorem eK.stored{v d h' tk a}{X:b9}{N:Sl->Rw->Prop}(gv:Z.F.Λ[i]?=some (some X))(V:eK Z O vs δ r s)(D:dm Z.F.c (HO Z O) s.heap v d)(K:Pok Z.F.au s.heap h' a)(EV:iI Z.F.au Z.F.Λ (vs.set i<|some v) h')(q:N (di δ i d) r):oj Z O s N {s with heap:=h',toks:=tk}:=by
 have k:=eK.Ph (tk:=tk) gv V D K EV
 exact⟨k.1,k.2,LX,q⟩
theorem ft{α:Type}{o:ag α}{f:α->SR}(h:(dO o f).wp K): ∃a,o=some a/\(f a).wp K:=by
 cases o with
 |none=>exact h.elim
 |some a=>exact⟨a,rfl,h⟩
theorem eK.nE(V:eK Z O vs δ r s)(tk:av):eK Z O vs δ r {s with toks:=tk}:=V.kG<|.nE V.g.wd tk
theorem LY{a}(e:(δ[i]?.bind λo=>o.bind λp=>(Hf p).bind DV.cZ)=some a):δ[i]?=some (some (false,.a a)):=by
 refine aU λG9 k9=>?_
 obtain @⟨o,e1,f1⟩:=bind_some e
 obtain @⟨p,e2,f2⟩:=bind_some f1
 obtain @⟨d,e3,f3⟩:=bind_some f2
 obtain⟨b,x⟩:=p
 refine k9 ?_
 cases b with
 |true=>exact nn e3
 |false=>
  cases e3
  exact aK e1<|aK e2<|aK (show x=.a a from DV.Cz f3) rfl
theorem T.aug{X:b9}{px pos:jt}{op:pX}{e:aX}(hop:op=.Add\/op=.Sub)(gv:Z.F.Λ[i]?=some (some X))(hk:Z.F.au.kindOf X=some .local\/Z.F.au.kindOf X=some .cell)(hc:(X==("__classdict__":b9))=false)(h:SE Z.F e x):
  T Z (exec (.AugAssign (.Name X px) op e pos) Z.F.au) (λδ r=>dO (δ[i]?.bind λo=>o.bind λp=>(Hf p).bind DV.cZ) λa=>(d9 bA x δ r).fZ λp r=>dO p.1.cZ λb=>.a (di p.2 i<|.a<|ZD op a b) r):=λO vs δ r s K V q=>by
 obtain⟨a,ha,q⟩:=ft q
 obtain⟨v,hv,D⟩:=V.g.nB i _<|gj.mpr<|LY ha
 obtain⟨t,rfl⟩:=D.pk
 refine wpAny_AugAssign_Name<|qc gv (hk.imp id .inl) hc V.g hv<|V.qA qB h (eY q) λO' δ' u d s1 r1 su U D V1 T1 q=>?_
 obtain⟨b,hb,q⟩:=ft q
 obtain⟨t2,rfl⟩:=D.cZ hb
 have V2:=V1.nE<|s1.toks+1
 have T2:oh Z O r1 s {s1 with toks:=s1.toks+1}:=.of<|T1.seq<|.nE V1.g.wd _
 rcases hop with rfl|rfl
 ·exact acD<|kh V2.g.ev gv hk λh' tk a K U EV=>(eK.stored gv V2 (.int _ _) K EV q).hF T2 su
 ·exact acC<|kh V2.g.ev gv hk λh' tk a K U EV=>(eK.stored gv V2 (.int _ _) K EV q).hF T2 su
class inductive iz (F:Fx):aa av->aa aX->Prop
 |nil:iz F [] []
 |cons {i:av} {x:b9} {p:jt} {is:aa av} {es:aa aX} (gv:F.Λ[i]?=some (some x)) (hk:F.au.kindOf x=some .local\/F.au.kindOf x=some .cell) (r:iz F is es):iz F (i::is) (.Name x p::es)
theorem iz.rm(h:iz F is es):(tf es F.au).length=is.length/\(tf es F.au).findIdx? (λx=>x.1)=none:=by
 induction h with
 |nil=>exact⟨rfl,rfl⟩
 |@cons i x p is es _ _ _ ih=>
  have e:tf (eW x p::es) F.au=(false,mQ (.Name x p) F.au)::tf es F.au:=rfl
  refine aK e ?_
  rw[List.findIdx?_cons]
  refine aK ih.2 ?_
  exact⟨aE (λx=>x+1) ih.1,rfl⟩
theorem uD{is es us ds}{N:Sl->Rw->Prop}(h:iz Z.F is es)(V:eK Z O vs δ r s)(cs:e8 Z.F.c (HO Z O) s.heap us ds)(hl:ds.length=is.length)(q:N (Bd δ is ds) r):
  wpAny Z.F.M Z.F.A (K8 ((tf es Z.F.au).map<|λx=>x.2) us) (λU s'=>oj Z O s N s') RE s:=by
 induction h generalizing O vs δ s us ds with
 |nil=>
  cases bY hl
  cases cs.Hg
  exact aD ⟨V,.cm V.g.wd,fq.cm _ _,q⟩
 |@cons i x p is es gv hk _ ih=>
  cases ds with
  |nil=>cases hl
  |cons d ds=>
   obtain⟨u,us,EP,c1,cs⟩:=cs.un
   refine aK EP ?_
   show wpAny _ _ (do jr _ (mQ (.Name x p) Z.F.au _);K8 ((tf es Z.F.au).map<|λx=>x.2) _) _ _ s
   refine ac<|dA<|qV<|kh V.g.ev gv hk λh' tk a K U EV=>?_
   have k:=eK.Ph (tk:=tk) gv V c1 K EV
   exact aq (ih k.1 (e8.aW (.mG K.sb (V.g.ic a K.ic).1) (.f9 λb=>rk) cs) (dc hl) q) (λU U p=>p.hF k.2 LX) λU U z=>z
theorem jO(x:x6 h.objs.size h h'): ∀b o,h.get? b=some o->h'.get? b=some o:=λb o e=>x b o (q8<|d5 e) e
theorem T.Xw{elts:aa aX}{k}{tpos pos:jt}{e:aX}{is:aa av}(hn:iz Z.F is elts)(hs:jf [.Tuple elts k tpos] e pos.line Z.F.au=pure false)(hw:q6 [.Tuple elts k tpos] e Z.F.au=pure none)
  (h:SE Z.F e x):T Z (exec (.Assign [.Tuple elts k tpos] e pos) Z.F.au) (λδ r=>(d9 bA x δ r).fZ λp r=>j5 is (λδ r=>.a δ r) p.1 p.2 r):=λO vs δ r s K V q=>by
 refine acR (V.qA qB h (eY q) λO' δ' u d s1 r1 su U D V1 T1 q=>?_) hs hw
 obtain⟨ds,hd,q⟩:=ft q
 obtain⟨e1,e2⟩:=bind_some hd
 have hl:=ah<|eh e2
 cases dT e2
 obtain⟨rfl,h1,h2,h3,h5,h6,_,cs⟩:=D.eN e1
 refine WH V1.g.er.handled ⟨_,h1,h2,_,h3⟩ (by rw[hn.rm.1,←hl,bT,cs.cn]) hn.rm.2 λh' hx=>?_
 have T2:gc Z.F r1 s1 {s1 with heap:=h'}:=.gr V1.g.wd<|.Lw (tk:=s1.toks) s1<|jO hx
 exact aq (uD hn (V1.kG T2) (cs.g9<|.all<|jO hx) hl q) (λU U p=>p.hF (.of<|T1.seq T2) su) λU U z=>z
end
structure Zb(Z:Zs)(X:az->Prop)(s0:af)(E:aa av->Rw->Prop)(x:az)(m:aa av)(st:ag (ag az))(dx:az)(vs:pZ ak)(mm:b9->ag ak)(t:ak)(r:Rw)(s:af):Prop where
 X':Bm Z.F.c s.heap s0.heap x m st dx vs mm t
 T:StX Z.F X r s0 s
 q:E m r
 th:s.heap.FunFrames {} Z.F.du
inductive HR(Z:Zs)(X:az->Prop)(s0:af)(E:aa av->Rw->Prop)(x:az)(m:aa av)(st:ag (ag az))(r:Rw)(s:af):Prop
 |mk {dx vs mm t} (F:Zb Z X s0 E x m st dx vs mm t r s)
structure SM(Z:Zs)(s0:af):Prop where
 cV: ∀b o,Z.F.c.cV.get? b=some o-> ∃o,s0.heap.get? b=some o
 xe: ∀b,Xe Z.F.c b-> ∃o,s0.heap.get? b=some o
 fr: ∀b∈jU Z.F.du,(∃o,s0.heap.get? b=some o)/\Z.F.c.cV.get? b=none/\ ¬Xe Z.F.c b
 frames:Z.F.A.frames=some Z.F.du
section
variable{Z:Zs}{O:av->aa az}{X:az->Prop}{vs:pZ ak}{δ:Sl}{r r1 r2:Rw}{s s0 s1 s2:af}{K:SK}{E:aa av->Rw->Prop}{RE:ak->af->Prop}{h':cy}{x dx:az}{m:aa av}{mm:b9->ag ak}{t:ak}{st:ag (ag az)}
theorem eK.Pj(V:eK Z O us δ r s0):SM Z s0:=
 ⟨λb o e=>⟨o,V.g.wd.cV b o e⟩,λb x=>V.g.iu b (V.g.hx b x),λb m=>by
  refine bN (jL V.g.er.cE m) λo h9=>cK h9 λe U=>?_
  exact⟨⟨o,e⟩,(V.g.er.apart b m).2⟩,V.g.er.frames⟩
structure aao(Z:Zs)(X:az->Prop)(s0:af)(r:Rw)(s':af):Prop where
 T:StX Z.F X r s0 s'
 th:s'.heap.FunFrames {} Z.F.du
theorem quiet{P:az->Prop}(A0:SM Z s0)(T:StX Z.F X r s0 s)(th:s.heap.FunFrames {} Z.F.du)(hP: ∀b,P b->s0.heap.get? b=none)(hn: ∀b o,P b->s.heap.get? b=some o-> ¬eJ o)
  (k1: ∀b o,¬P b->b∉jU Z.F.du->s.heap.get? b=some o->h'.get? b=some o) (k2: ∀b o,b∈jU Z.F.du->s.heap.get? b=some o-> ∃sl,h'.get? b=some {o with slots:=sl}):aao Z X s0 r {s with heap:=h'}:=by
 have n0: ∀b,(∃o,s0.heap.get? b=some o)-> ¬P b:=λb e p=>by
  refine bN e λo e=>?_
  exact nn<|(hP b p).symm.trans e
 refine⟨⟨T.wd.Lv (tk:=s.toks) λb o e z=>?_,⟨λb o e=>?_,λb o e n f=>k1 b o (n0 b ⟨o,e⟩) f<|T.kp.pq b o e n f,λb o e n f=>?_⟩,df T.same ⟨h',s.toks,rfl⟩⟩,iH (λL m o e d=>?_) th⟩
 ·by_cases hf:b∈jU Z.F.du
  ·refine n7 (A0.fr b hf) λU h1 h2=>?_
   refine bN (jL th hf) λo' h9=>cK h9 λe' nf=>?_
   cases e.symm.trans e'
   rcases z with z|z|z
   ·exact nn<|h1.symm.trans z
   ·exact absurd z h2
   ·exact absurd z<|mr nf
  ·refine k1 b o (λp=>?_) hf e
   rcases z with z|z|z
   ·exact n0 b (A0.cV b _ z) p
   ·exact n0 b (A0.xe b z) p
   ·exact hn b o p e z
 ·refine bN (T.kp.cE b o e) λo' e'=>?_
  by_cases hf:b∈jU Z.F.du
  ·refine bN (k2 b o' hf e') λsl z=>?_
   exact⟨_,z⟩
  ·exact⟨o',k1 b o' (n0 b ⟨o,e⟩) hf e'⟩
 ·refine bN (T.kp.NB b o e n f) λsl z=>?_
  refine bN (k2 b _ f z) λsl' z'=>?_
  exact⟨sl',z'⟩
 ·refine bN (k2 L o m e) λsl z=>?_
  exact⟨_,z,d⟩
noncomputable abbrev Pk(c:Cx)(dx:az)(vs:pZ ak):Obj:={cls:=.ref<|c.cls 9,dict:=some dx,data:=.fields vs}
theorem Bx{Q:Ah->af->Prop}(hen:Z.F.du=Z.F.au::ol)(hf:Z.F.au.frame=some L)(A0:SM Z s0)(F:Zb Z X s0 E x m st dx vs mm t r s)
  (hQ: ∀h',HR Z X s0 E x m (some<|some L) r {s with heap:=h'}->Q () {s with heap:=h'}):
  wpAny Z.F.M Z.F.A (do let a ←frameOf Z.F.au;let pl ←entryPlaceOf L hadNext;let b ←Ck head a .none (dZ L) .none pl;setField (.ref x) 1 b) Q RE s:=by
 have hsz:=(dG.mp F.X'.Lx).1
 have aap: ∀b,s0.heap.get? b=none->b∉jU Z.F.du:=λb e m=>by
  obtain⟨⟨o,z⟩,_⟩:=A0.fr b m
  exact nn<|e.symm.trans z
 have xfr:=aap x F.X'.VK
 have dfr:=aap dx F.X'.Oh
 have xnc: ∀b o,b=x->s.heap.get? b=some o-> ¬eJ o:=λb o z e=>by
  subst z
  cases e.symm.trans F.X'.obj
  refine sM rfl λq t z=>?_
  have tb:=F.X'.tb
  cases(F.X'.Lx.symm.trans z)
  cases tb
 have hfr:=A0.frames
 have th:=F.th
 rw[hen]at hfr th
 refine ac<|wpAny_frameOf_fun hfr th hf λh₁ hs₁=>?_
 replace hs₁:=hen.symm▸hs₁
 refine ac<|wpAny_entryPlaceOf λpl hpl=>?_
 unfold Ck newFields
 refine ac<|qU ?_<|hpl.sizeOk5 _ _ _ _ _
 have V6:h₁.get? x=some (Pk Z.F.c dx vs):=(hs₁.2.1 x xfr).trans F.X'.obj
 have V7:=aA (h:=h₁) {cls:=.type "traceback",dict:=none,data:=.fields ([head,.ref L,.none,dZ L,.none]++(if pl.isEmpty then bo 6 ak.none else pl)).toArray} V6
 refine GL V7 rfl hsz<|hQ _ ?_
 have hTe:h₁.objs.size≠x:=q9<|d5 V6
 have hd₃:=vj (o:=Pk Z.F.c dx vs) rfl<|λx=>x.setIfInBounds 1<|gE h₁.objs.size
 have aaq:=cI (l5<|λx=>x.setIfInBounds 1<|gE h₁.objs.size) V7<|Jg hd₃
 have aar:=(il (h₁.push {cls:=.type "traceback",dict:=none,data:=.fields ([head,.ref L,.none,dZ L,.none]++(if pl.isEmpty then bo 6 ak.none else pl)).toArray})
  (l5 (λx=>x.setIfInBounds 1 (gE h₁.objs.size))) (Jh hTe)).trans (aR h₁ rfl)
 have keep: ∀b o,b≠x->h₁.get? b=some o->
   ((h₁.push {cls:=.type "traceback",dict:=none,data:=.fields ([head,.ref L,.none,dZ L,.none]++(if pl.isEmpty then bo 6 ak.none else pl)).toArray}).update x<|l5<|λx=>x.setIfInBounds 1<|gE h₁.objs.size).get? b=some o:=
  λb o hbe hb=>by
   refine aK (il _ _<|Jh hbe) ?_
   exact aA _ hb
 have Qt:=quiet (P:=(λy=>y=x)) A0 F.T F.th (λb p=>p▸F.X'.VK) xnc (λb o p f e=>keep b o p<|(hs₁.2.1 b f).trans e) λb o f e=>by
  obtain⟨sl,e'⟩:=hs₁.2.2 b o e
  exact⟨sl,keep b _ (λz=>xfr<|z▸f) e'⟩
 have Tn:s.heap.get? h₁.objs.size=none:=by rw[hs₁.1];exact bL _
 exact⟨⟨⟨F.X'.VK,aaq,F.X'.nF.keep (λo e=>keep _ _ F.X'.ne ((hs₁.2.1 dx dfr).trans e)),F.X'.Oh,F.X'.ne,F.X'.msg,by simp[hsz],
  .cx (F.T.kp.dp Tn) hTe (λz=>by obtain⟨o,e⟩:=F.X'.nF.obj;rw[←z,Tn]at e;exact nn e) aar rfl (by simp[dZ]) (by simp)⟩,Qt.T,F.q,Qt.th⟩⟩
theorem yH(A0:SM Z s0)(F:Zb Z X s0 E x m (some fl) dx vs mm (.ref T0) r s)(h1:s0.heap.get? T0=none)(h2:T0≠x)(h3:T0≠dx)(hT:s.heap.get? T0=some oT)(hdT:oT.data=.fields ts)(h6:ts[3]?=some (fl.elim .none λf=>dZ f))(nc: ∀q t,ts[1]?≠some (.str q t)):
  Zb Z X s0 E x m (some V8) dx vs mm (.ref T0) r {s with heap:=s.heap.update T0 (l5<|λx=>x.setIfInBounds 3<|V8.elim .none λf=>dZ f)}:=by
 have other: ∀b,b≠T0->(s.heap.update T0<|l5<|λx=>x.setIfInBounds 3<|V8.elim ak.none λf=>dZ f).get? b=s.heap.get? b:=λb hb=>il _ _<|Jh hb
 have Qt:=quiet (h':=s.heap.update T0 (l5 (λx=>x.setIfInBounds 3 (V8.elim ak.none λf=>dZ f)))) (P:=(λx=>x=T0)) A0 F.T F.th (λb p=>p▸h1) (λb o p e=>by
  subst p
  cases e.symm.trans hT
  exact sM hdT nc) (λb o p f e=>(other b p).trans e) λb o f e=>⟨o.slots,(other b λz=>by
  refine cK (A0.fr b f) λn90 U=>?_
  obtain⟨o',e'⟩:=n90
  exact nn (h1.symm.trans (z▸e'))).trans e⟩
 exact⟨⟨F.X'.VK,(other x h2.symm).trans F.X'.obj,F.X'.nF.keep λo e=>(other dx h3.symm).trans e,F.X'.Oh,F.X'.ne,F.X'.msg,F.X'.Lx,.cx h1 h2 h3 (cI _ hT<|Jg<|vj hdT _) (vj hdT _) (by simp[((dG.mp h6).1)]) (λq t=>by rw[Array.getElem?_setIfInBounds_ne (by decide)];exact nc q t)⟩,Qt.T,F.q,Qt.th⟩
theorem C3{Q:Ah->af->Prop}(hen:Z.F.du=Z.F.au::ol)(hf:Z.F.au.frame=some L)(A0:SM Z s0)(F:Zb Z X s0 E x m st dx vs mm t r s)(hst:yj Z.F st)
  (hQ: ∀h',HR Z X s0 E x m (some<|some L) r {s with heap:=h'}->Q () {s with heap:=h'}):wpAny Z.F.M Z.F.A (Cd (.ref x) Z.F.au) Q RE s:=by
 unfold Cd
 refine aK hf ?_
 refine ac<|gt F.X'.obj rfl F.X'.Lx ?_
 have tb:=F.X'.tb
 cases tb with
 |l9=>
  refine aK (aN (by decide)) ?_
  exact Bx hen hf A0 F hQ
 |@cx fl T0 oT ts h1 h2 h3 h4 h5 h6 h7=>
  refine aK (aJ (show(gE T0 !=ak.none)=true from by simp)) ?_
  refine ac<|gt h4 h5 h6 ?_
  cases fl with
  |some L'=>
   have:L'=L:=by
    have:=hst L' rfl
    replace this:=hen▸this
    simp[jU,hf]at this
    exact this
   subst this
   refine aK (aJ (show((some L').elim ak.none (λf=>dZ f)==dZ L')=true from by simp)) ?_
   exact aD<|hQ s.heap ⟨F⟩
  |none=>
   refine aK (aN (show ¬(((none:ag az).elim ak.none (λf=>dZ f)==dZ L)=true) from by simp[dZ])) ?_
   exact ac<|GL h4 h5 (dG.mp h6).1<|Bx hen hf A0 (yH (V8:=none) A0 F h1 h2 h3 h4 h5 h6 h7) hQ
theorem ki{Q:Ah->af->Prop}(A0:SM Z s0)(F:HR Z X s0 E x m (some fl) r s)
  (hQ: ∀h',HR Z X s0 E x m (some V8) r {s with heap:=h'}->Q () {s with heap:=h'}):wpAny Z.F.M A' (setFlight (.ref x) V8) Q RE s:=by
 obtain⟨F⟩:=F
 unfold setFlight
 refine ac<|gt F.X'.obj rfl F.X'.Lx ?_
 have tb:=F.X'.tb
 cases tb with
 |@cx _ T0 oT ts h1 h2 h3 h4 h5 h6 h7=>
  refine aK (aJ (show(gE T0 !=ak.none)=true from by simp)) ?_
  exact GL h4 h5 (dG.mp h6).1<|hQ _ ⟨yH A0 F h1 h2 h3 h4 h5 h6 h7⟩
theorem E6{RE':ak->af->Prop}(A0:SM Z s0)(F:HR Z X s0 E x m (some fl) r s)
  (hQ: ∀h',HR Z X s0 E x m (some Z.F.au.frame) r {s with heap:=h'}->RE' (.ref x) {s with heap:=h'}):xZ Z.F.M Z.F.A Z.F.au RE' (.ref x) s:=by
 obtain⟨F'⟩:=id F
 unfold xZ
 refine ac<|gt F'.X'.obj rfl F'.X'.Lx ?_
 have tb:=F'.X'.tb
 cases tb with
 |@cx _ T0 oT ts h1 h2 h3 h4 h5 h6 h7=>
  refine aK (aN (show ¬((gE T0==ak.none)=true) from by simp)) ?_
  first
   |exact ac (aD (ki A0 F hQ))
   |exact ki A0 F hQ
theorem yI{Q:Ah->af->Prop}(hen:Z.F.du=Z.F.au::ol)(hf:Z.F.au.frame=some L)(A0:SM Z s0)(F:Zb Z X s0 E x m st dx vs mm t r s)(hst:yj Z.F st)
  (hQ: ∀h',HR Z X s0 E x m (some none) r {s with heap:=h'}->Q () {s with heap:=h'}):wpAny Z.F.M Z.F.A (YS Z.F.au<|.ref x) Q RE s:=by
 unfold YS
 exact ac<|C3 hen hf A0 F hst λh' F'=>ki A0 F' λh'' xL=>hQ h'' xL
structure sH(F:Fx):Prop where
 du: ∃ol,F.du=F.au::ol
 frame: ∃L,F.au.frame=some L
theorem sH.Xx(H:sH F):yj F (some F.au.frame):=λL e=>by
 obtain⟨⟨ol,h1⟩,⟨L',h2⟩⟩:=H
 replace e:=h2▸e
 cases e
 refine aK h1 ?_
 simp[jU,h2]
theorem uE(H:sH Z.F)(A0:SM Z s0)(p:xJ Z O s0 E e s):lP Z.F.M Z.F.A Z.F.au (λe s'=>xZ Z.F.M Z.F.A Z.F.au (xJ Z O s0 E) e s') e s:=by
 obtain⟨rfl,X,T,q,hd,th⟩:=p
 obtain⟨ol,hen⟩:=H.du
 obtain⟨L,hf⟩:=H.frame
 unfold lP
 refine C3 hen hf A0 ⟨X,T,q,th⟩ hd λh' F'=>E6 A0 F' λh'' xL=>?_
 obtain⟨xL⟩:=xL
 exact⟨rfl,xL.X',xL.T,xL.q,H.Xx,xL.th⟩
end
section
variable{Z:Zs}{O:av->aa az}{vs:aa (ag ak)}{δ:Sl}{r r1 r2:Rw}{s s0 s1 s2:af}{K:SK}{E:aa av->Rw->Prop}{i:av}
inductive aes(Z:Zs)(O:av->aa az)(s:af)(x:Sl->Rw->SR)(K:SK)(s':af):Prop
 |mk {O' vs δ r} (V:eK Z O' vs δ r s') (T:oh Z O r s s') (u:fq O O' s) (q:(x δ r).wp K)
theorem HS{x:SR}{f:Sl->Rw->SR}(h:(x.seq f).wp K):x.wp {K with N:=λδ r=>(f δ r).wp K}:=by cases x<;>exact h
theorem T.while{c:aX}{b:aa d6}{pos:jt}{t:Dl->Rw->bc aM}{y:Sl->Rw->SR}{n:av}(H:sH Z.F)(ht:SB Z.F (jX c Z.F.au<|eval c Z.F.au) t)(h1:T Z (execs b Z.F.au) y):
  T Z (exec (.While c b [] pos) Z.F.au) (λδ r=>jE (λδ r=>t (b4 δ) r) y n δ r):=λO vs δ r s K V q=>by
 refine wpAny_While<|codeAny_whileLoop (λn s'=>aes Z O s (jE (λδ r=>t (b4 δ) r) y n) K s') (λn s1 hs=>?_) n ⟨V,.cm V.g.wd,fq.cm _ _,q⟩
 obtain⟨V1,T1,u1,q⟩:=hs
 cases n with
 |zero=>exact q.elim
 |succ n=>
  have q:=eY q
  refine aq (V1.Pg ht q λb' d s2 r2 e T2 q=>?_) (λU U z=>z) λe s2 p=>uE H V.Pj<|p.hF T1 u1
  cases e
  have V2:=V1.kG T2
  have T12:=T1.seq u1<|.of T2
  cases b' with
  |true=>
   rw[aJ rfl]at q ⊢
   refine aq (h1 _ _ _ _ _ _ V2<|HS q) (λf s3 p=>?_) λe s3 p=>uE H V.Pj<|p.hF T12 u1
   cases f with
   |next=>
    obtain⟨V3,T3,u3,q⟩:=p
    exact⟨n,Nat.lt_succ_self n,V3,T12.seq u1 T3,u1.trans T12 u3,q⟩
   |ret v=>exact mf.hF (f:=.ret v) (K:=K) T12 u1 (by
     cases p with
     |val D T q=>exact .val D T q
     |nF D n T q=>exact .nF D n T q)
   |brk=>exact p.elim
   |cont=>exact p.elim
  |false=>
   rw[aN (by decide)]at q ⊢
   exact iW ⟨V2,T12,u1,q⟩
noncomputable abbrev Zs.iY(Z:Zs)(W:az->Prop):Zs:=⟨Z.F,λb=>Z.ex b\/W b,Z.sG⟩
variable{W:az->Prop}
theorem uF:HO (Z.iY W) O b↔HO Z O b\/W b:=by
 constructor
 ·rintro((q|q|q)|q)
  ·exact .inl<|.inl<|.inl q
  ·exact .inl<|.inl<|.inr q
  ·exact .inr q
  ·exact .inl<|.inr q
 ·rintro(((q|q)|q)|q)
  ·exact .inl<|.inl q
  ·exact .inl<|.inr<|.inl q
  ·exact .inr q
  ·exact .inl<|.inr<|.inr q
structure rn(Z:Zs)(W:az->Prop):Prop where
 cV: ∀b,W b->Z.F.c.cV.get? b=none
 xe: ∀b,W b-> ¬Xe Z.F.c b
 fr: ∀b,W b->b∉jU Z.F.du
 ic: ∀b,W b-> ¬yi Z.F.au b
theorem eK.apart(V:eK Z O vs δ r s)(e: ∀b,W b->s.heap.get? b=none):rn Z W:=
 ⟨λb w=>V.g.wd.gb (e b w),λb w=>(V.g.fr (e b w)).1,λb w=>(V.g.fr (e b w)).2,λb w l=>by
  refine bN (V.g.iu b<|.inl<|.inl<|.inr<|.inl l) λo z=>?_
  exact nn ((e b w).symm.trans z)⟩
theorem eK.iY(V:eK Z O vs δ r s)(T:gc Z.F r1 s s1)(e: ∀b,W b->s.heap.get? b=none)(th: ∀b,W b-> ∃o,s1.heap.get? b=some o):eK (Z.iY W) O vs δ r1 s1:=by
 have up:qR (HO Z O) (HO (Z.iY W) O) s.heap:=λb q=>(uF.mp q).imp id<|e b
 refine⟨V.g.up T (λb q=>uF.mpr<|.inl q) up λb q=>?_,λi d q=>?_,V.E4,λi b m=>⟨(V.pl i b m).cV,λq=>?_⟩,V.sG⟩
 ·rcases uF.mp q with q|w
  ·exact(V.kG T).g.iu b q
  ·exact th b w
 ·obtain⟨v,e1,D⟩:=V.nF i d q
  exact⟨v,e1,D.aW (V.g.g9 T) up λa m o e=>T.kp.pq a o e (fE V m).1 (fE V m).2.1⟩
 ·rcases q with q|q|w
  ·exact(V.pl i b m).gQ<|.inl q
  ·exact(V.pl i b m).gQ<|.inr q
  ·obtain⟨o,z⟩:=V.g.iu b<|.inr ⟨i,m⟩
   exact nn<|(e b w).symm.trans z
theorem eK.aat{jK:az->Prop}(A:rn Z W)(hW: ∀b,W b->Z.ex b)(V:eK Z O vs δ r s)(nc: ∀b o,W b->s.heap.get? b=some o-> ¬eJ o)(k: ∀b o,¬W b->s.heap.get? b=some o->h'.get? b=some o)(l: ∀b,jK b->Z.ex b)(ex: ∀b,jK b->W b-> ∃o,h'.get? b=some o):
  eK ⟨Z.F,jK,Z.sG⟩ O vs δ r {s with heap:=h',toks:=tk}:=by
 have hO: ∀i b,b∈O i-> ¬W b:=λi b m w=>(V.pl i b m).gQ<|.inr<|hW b w
 have fx:mF (HO Z O) s.heap h':=λb o e n=>k b o (λw=>n<|.inl<|.inr<|hW b w) e
 have le: ∀b,HO ⟨Z.F,jK,Z.sG⟩ O b->HO Z O b:=λb q=>q.imp (λq=>q.imp id<|l b) id
 have G:=V.g
 have nW: ∀b,HO ⟨Z.F,jK,Z.sG⟩ O b->W b->jK b:=λb q w=>by
  rcases q with((q|q|q)|q)|⟨i,m⟩
  ·exact absurd q<|A.fr b w
  ·exact absurd q<|A.ic b w
  ·exact absurd q<|A.xe b w
  ·exact q
  ·exact absurd w<|hO i b m
 refine⟨⟨G.wd.Lv λb o e z=>k b o (λw=>?_) e,⟨G.er.frames,iH (λL m o e d=>⟨o,k L o (λw=>A.fr L w m) e,d⟩) G.er.cE,λb m=>⟨.inl<|.inl<|.inl m,(G.er.apart b m).2⟩,G.er.depth,G.er.units,G.er.handled⟩,G.ev.keep λb q o e=>⟨o.slots,k b o (λw=>A.ic b w q) e⟩,λb q=>⟨.inl<|.inl<|.inr<|.inl q,(G.ic b q).2⟩,λb q=>.inl<|.inl<|.inr<|.inr q,λb q=>?_,λi d e=>?_⟩,λi d e=>?_,V.E4,λi b m=>⟨(V.pl i b m).cV,λq=>(V.pl i b m).gQ<|q.imp id<|l b⟩,V.sG⟩
 ·rcases z with z|z|z
  ·exact nn<|(A.cV b w).symm.trans z
  ·exact A.xe b w z
  ·exact nc b o w e z
 ·by_cases w:W b
  ·exact ex b (nW b q w) w
  ·obtain⟨o,e⟩:=G.iu b<|le b q
   exact⟨o,k b o w e⟩
 ·obtain⟨v,e1,D⟩:=G.nB i d e
  exact⟨v,e1,D.aW fx<|.f9 le⟩
 ·obtain⟨v,e1,D⟩:=V.nF i d e
  exact⟨v,e1,D.aW fx (.f9 le) λa m o e=>k a o (hO i a m) e⟩
theorem oh.g9(T:oh Z O r1 s s1):mF (HO Z O) s.heap s1.heap:=λb o e n=>
 T.kp.pq b o e (λq=>n<|q.elim (λq=>.inl<|.inl<|.inr<|.inr q) λq=>q.elim (λq=>.inl<|.inl<|.inr<|.inl q) .inr) λq=>n<|.inl<|.inl<|.inl q
theorem oh.HN(Wd1:Wd Z.F.c r {s1 with heap:=h',toks:=tk})(T:oh Z O r s s1)(n: ∀b,W b->s.heap.get? b=none)(k: ∀b o,¬W b->s1.heap.get? b=some o->h'.get? b=some o):oh Z O r s {s1 with heap:=h',toks:=tk}:=by
 have n0: ∀b o,s.heap.get? b=some o-> ¬W b:=λb o e w=>nn<|(n b w).symm.trans e
 refine⟨Wd1,⟨λb o e=>?_,λb o e x f=>k b o (n0 b o e)<|T.kp.pq b o e x f,λb o e x f=>?_⟩,df T.same ⟨_,_,rfl⟩⟩
 ·refine bN (T.kp.cE b o e) λo' e'=>?_
  exact⟨o',k b o' (n0 b o e) e'⟩
 ·refine bN (T.kp.NB b o e x f) λsl e'=>?_
  exact⟨sl,k b _ (n0 b o e) e'⟩
theorem r9(T:oh (Z.iY W) O r s s1):oh Z O r s s1:=⟨T.wd,T.kp,T.same⟩
theorem TY(p:xJ (Z.iY W) O s E e s1):xJ Z O s E e s1:=by
 obtain⟨he,X,T,q,hd,th⟩:=p
 exact⟨he,X,r9 T,q,hd,th⟩
theorem Pl(p:HQ (Z.iY W) O s {K with N:=N} v s1):HQ Z O s K v s1:=by
 have l: ∀b,H1 Z b->H1 (Z.iY W) b:=λb q=>q.imp id .inl
 cases p with
 |val D T q=>exact .val (D.aW (.cm _ _) (.f9 l)) (r9 T) q
 |nF D n T q=>exact .nF (D.aW (.cm _ _) (.f9 λb q=>q.imp (l b) id) λU U U e=>e) n (r9 T) q
structure C4(W:az->Prop)(It:(az->Prop)->cy->av->Prop):Prop where
 aW: ∀H H' h h' k,It H h k->mF H h h'->qR H H' h->(∀b,W b-> ∀o,h.get? b=some o->h'.get? b=some o)->It H' h' k
 obj: ∀H h k b,It H h k->W b-> ∃o,h.get? b=some o/\ ¬eJ o
inductive Pm(Z:Zs)(O:av->aa az)(s:af)(W:az->Prop)(It:(az->Prop)->cy->av->Prop)(xs:aa DV)(aW:DV->Sl->Rw->SR)(K:SK)(n:av)(s':af):Prop
 |mk {O' vs δ r k} (hn:n+k=xs.length) (V:eK (Z.iY W) O' vs δ r s') (it:It (HO (Z.iY W) O') s'.heap k) (T:oh Z O r s s') (u:fq O O' s) (q:(dH aW (xs.drop k) δ r).wp K)
section
variable{It:(az->Prop)->cy->av->Prop}{O':av->aa az}{k n:av}{xs:aa DV}{aW:DV->Sl->Rw->SR}
theorem C4.nc(IO:C4 W It)(it:It H h k): ∀b o,W b->h.get? b=some o-> ¬eJ o:=λb o w e=>by
 obtain⟨o',e',n⟩:=IO.obj H h k b it w
 cases e.symm.trans e'
 exact n
theorem rn.up(A:rn Z W):rn (Z.iY W) W:=⟨A.cV,A.xe,A.fr,A.ic⟩
theorem By(IO:C4 W It)(A:rn Z W)(nW: ∀b,W b->s.heap.get? b=none)(exW: ∀b,W b-> ¬HO Z O b)(V:eK (Z.iY W) O' vs δ r s1)(it:It (HO (Z.iY W) O') s1.heap k)(T:oh Z O r s s1)(u:fq O O' s)(kk: ∀b o,¬W b->s1.heap.get? b=some o->h'.get? b=some o)(q:K.N δ r):oj Z O s K.N {s1 with heap:=h'}:=by
 have V2:=eK.aat (Z:=Z.iY W) (tk:=s1.toks) (jK:=Z.ex) A.up (λb w=>.inr w) V (IO.nc it) kk (λb q=>.inl q) λb q w=>absurd (.inl<|.inr q)<|exW b w
 exact⟨V2,.HN (tk:=s1.toks) V2.g.wd T nW kk,u,q⟩
theorem Bz(IO:C4 W It)(A:rn Z W)(V:eK (Z.iY W) O' vs δ r s1)(nc: ∀b o,W b->s1.heap.get? b=some o-> ¬eJ o)(ex: ∀b,W b-> ∃o,h'.get? b=some o)(kk: ∀b o,¬W b->s1.heap.get? b=some o->h'.get? b=some o):eK (Z.iY W) O' vs δ r {s1 with heap:=h',toks:=tk}:=
 eK.aat (Z:=Z.iY W) (tk:=tk) (jK:=(Z.iY W).ex) A.up (λb w=>.inr w) V nc kk (λb q=>q) λb U w=>ex b w
theorem C4.sts(IO:C4 W It)(A:rn Z W)(V:eK (Z.iY W) O' vs δ r s1)(T1:oh (Z.iY W) O' r1 s1 s2)(u:fq O' O2 s1)(it:It (HO (Z.iY W) O') s1.heap k):It (HO (Z.iY W) O2) s2.heap k:=
 IO.aW _ _ _ _ _ it (oh.g9 T1) (λb q=>by
  rcases q with q|⟨j,m⟩
  ·exact .inl<|.inl q
  ·exact(u j b m).imp (λq=>.inr q) id) λb w o e=>T1.kp.pq b o e (λz=>by
  rcases z with z|z|⟨j,m⟩
  ·exact A.xe b w z
  ·exact A.ic b w z
  ·exact(V.pl j b m).gQ (.inr (.inr w))) (A.fr b w)
theorem BA{R:Ta->af->Prop}{RE:ak->af->Prop}(IO:C4 W It)(A:rn Z W)(h1: ∀ex,T ⟨Z.F,ex,Z.sG⟩ (execs b Z.F.au) y)(hn:n+k=xs.length)(hlt:k<xs.length)(V:eK (Z.iY W) O' vs δ r s1)(it:It (HO (Z.iY W) O') s1.heap (k+1))(T1:oh Z O r s s1)(u:fq O O' s)(q:(y δ r).wp {K with N:=λδ r=>(dH aW (xs.drop<|k+1) δ r).wp K})
  (hnext: ∀s' m,m<n->Pm Z O s W It xs aW K m s'->R .next s') (hret: ∀v s',HQ Z O s K v s'->R (.ret v) s') (hexc: ∀e s',xJ Z O s K.E e s'->RE e s'):wpAny Z.F.M Z.F.A (execs b Z.F.au) R RE s1:=by
 refine aq (h1 (Z.iY W).ex _ _ _ _ _ _ V q) (λf s5 p=>?_) λe s5 p=>hexc e s5<|(TY (W:=W) p).hF T1 u
 cases f with
 |next=>
  obtain⟨V5,T5,u5,q⟩:=p
  exact hnext s5 (n - 1) (um (by assumption) (by assumption)).1<|.mk (k:=k+1) (um (by assumption) (by assumption)).2 V5 (IO.sts A V T5 u5 it) (T1.seq u<|r9 (W:=W) T5) (u.trans T1 u5) q
 |ret v=>exact hret v s5 (mf.hF (f:=.ret v) (K:=K) T1 u (Pl (W:=W) p))
 |brk=>exact p.elim
 |cont=>exact p.elim
end
theorem JS:C4 (λx=>x=I) (λH h k=>jV c H h I xs k):=
 ⟨λH H' h h' k it f u kI=>it.aW f u λo e=>kI I rfl o e,λH h k b it w=>w▸it.obj⟩
set_option tactic.hygienic true in
theorem T.Xy{x:b9}{px:jt}{b:aa d6}{I xs}{y:Sl->Rw->SR}{R:tq->af->Prop}(gv:Z.F.Λ[i]?=some (some x))(hk:Z.F.au.kindOf x=some .local\/Z.F.au.kindOf x=some .cell)(h1: ∀ex,T ⟨Z.F,ex,Z.sG⟩ (execs b Z.F.au) y)
  (A:rn Z (λx=>x=I)) (nI: ∀b,b=I->s.heap.get? b=none) (exI: ∀b,b=I-> ¬HO Z O b) (inv:Pm Z O s (λx=>x=I) (λH h k=>jV Z.F.c H h I xs k) xs (λd δ r=>y (di δ i d) r) K xs.length s1)
  (hnext: ∀s',oj Z O s K.N s'->R (.ok .next) s') (hret: ∀v s',HQ Z O s K v s'->R (.ok<|.ret v) s') (hexc: ∀e s',xJ Z O s K.E e s'->lP Z.F.M Z.F.A Z.F.au (λe s'=>R (.error e) s') e s'):
  cW Z.F.M Z.F.A (.forLoop (.Name x px) (.ref I) b [] Z.F.au) R s1:=by
 refine codeAny_forLoop (Pm Z O s (λx=>x=I) (λH h k=>jV Z.F.c H h I xs k) xs (λd δ r=>y (di δ i d) r) K) (λn s3 hs=>?_) xs.length inv
 obtain⟨hn,V,it,T1,u,q⟩:=hs
 rename_i O' vs δ r k
 cases hd:xs[k]? with
 |none=>
  have hl:=gF.mp hd
  rw[qY hl]at q
  exact it.done V.g.er.handled (Ao (hn▸Ap ..) hl) λh' ex=>iW<|hnext _<|By JS A nI exI V it T1 u (λb o n e=>ex b o n e) q
 |some d=>
  obtain⟨hlt,hd'⟩:=aY.mp hd
  rw[pd hlt,hd']at q
  refine it.HH (.inl<|.inr<|.inr rfl) hd λv h' tk sb D it'=>?_
  have V2:=Bz (tk:=tk) (JS (c:=Z.F.c) (xs:=xs)) A V (JS.nc it) (λb w=>w▸(by
   obtain⟨oi,ei,_⟩:=it'.obj
   exact⟨oi,ei⟩)) λb o n e=>(sb.2 b n).trans e
  refine qV<|kh V2.g.ev gv hk λh2 ND a Kp U EV=>?_
  have k3:=eK.Ph (Z:=Z.iY<|λx=>x=I) (tk:=ND) gv V2 D Kp EV
  exact BA JS A h1 hn hlt k3.1 (it'.aW (H':=HO (Z.iY<|λx=>x=I)<|iK O' i []) (.mG Kp.sb (V2.g.ic a Kp.ic).1) (.f9 λb=>rk) λo e=>(Kp.sb.2 I λz=>A.ic I rfl<|z▸Kp.ic).trans e) ((oh.HN (Z:=Z) (W:=(λx=>x=I)) (tk:=tk) V2.g.wd T1 nI λb o n e=>(sb.2 b n).trans e).seq u<|r9 (Z:=Z) k3.2) (u.upd λU m=>absurd m (by simp)) (HS q) (λs' m hm h=>⟨m,hm,h⟩) hret hexc
end
section
variable{Z:Zs}{O O1:av->aa az}{vs:aa (ag ak)}{δ uf:Sl}{r r0 r1 r2:Rw}{s s0 s1 s2:af}{K:SK}{E:aa av->Rw->Prop}{i:av}{y:Sl->Rw->SR}
theorem sa(H:sH Z.F)(gv:Z.F.Λ[i]?=some (some x))(hk:Z.F.au.kindOf x=some .local\/Z.F.au.kindOf x=some .cell)(h1: ∀ex,T ⟨Z.F,ex,Z.sG⟩ (execs b Z.F.au) y)
  (V0:eK Z O vs δ r0 s) (V:eK Z O1 vs uf r0 s) (u:fq O O1 s) (D:VI Z.F.c (HO Z O1) s s2 v xs) (T2:gc Z.F r s s2) (q:(dH (λd δ r=>y (di δ i d) r) xs uf r).wp K):
  cW Z.F.M Z.F.A (.forLoop (.Name x px) v b [] Z.F.au) (λr s'=>match r with|.ok f=>mf Z O s K f s'|.error e=>xZ Z.F.M Z.F.A Z.F.au (xJ Z O s K.E) e s') s2:=by
 obtain⟨rfl,it,nI,hl⟩:=D
 obtain⟨o,e,_⟩:=it.obj
 have nW: ∀b,b=_->s.heap.get? b=none:=λb w=>w▸nI
 refine T.Xy gv hk h1 (V0.apart nW) nW (λb w q=>?_) (.mk (k:=0) rfl (V.iY T2 nW λb w=>w▸⟨o,e⟩) (it.aW (.cm _ _) (.f9 λb q=>uF.mp q) λU e=>e) (.of T2) u q) (λU p=>p) (λU U p=>p) λU U p=>uE H V0.Pj p
 obtain⟨o,e⟩:=V0.g.iu b q
 exact nn<|(nW b w).symm.trans e
theorem sd{α:Type}{x:bc α}{f:α->ag (aa DV)}{g:α->Rw->aa DV->SR}(q:x.wp (λd r=>(dO (f d)<|g d r).wp K) E){P:aa DV->Rw->Prop}(h: ∀d xs r,f d=some xs->(g d r xs).wp K->P xs r):(x.bind λv r=>bc.fG (f v) r).wp P E:=by
 cases x with
 |c d r=>
  obtain⟨a,e,q⟩:=ft q
  refine(?_:(bc.fG (f d) r).wp P E)
  refine aK e ?_
  exact h _ _ _ e q
 |e m r=>exact q
 |d=>exact q
theorem TZ(h:bA d=true)(e:vB d=some xs):False:=by
 cases d with
 |f=>exact nn e
 |j b=>exact nn e
 |a i=>exact nn e
 |d l=>exact nn e
 |_=>exact ff h
theorem T.aeu{x:b9}{px:jt}{iter:aX}{b:aa d6}{pos:jt}{z:Dl->Rw->bc DV}(H:sH Z.F)(hs: ∀x,cH iter Z.F.au x=pure x)(gv:Z.F.Λ[i]?=some (some x))(hk:Z.F.au.kindOf x=some .local\/Z.F.au.kindOf x=some .cell)(h:SE Z.F iter z)(h1: ∀ex,T ⟨Z.F,ex,Z.sG⟩ (execs b Z.F.au) y):
  T Z (exec (.For (.Name x px) iter b [] pos) Z.F.au) (λδ r=>(d9 bA z δ r).fZ λp r=>dO (vB p.1) λxs=>dH (λd δ r=>y (di δ i d) r) xs p.2 r):=λO vs δ r s K V q=>by
 have go: ∀O1 uf P,eK Z O1 vs uf r s->fq O O1 s->P.H=HO Z O1->Gd Z.F P r s->((z P.δ r).bind λv r=>bc.fG (vB v) r).wp (λxs r=>(dH (λd δ r=>y (di δ i d) r) xs uf r).wp K) K.E->wpAny Z.F.M Z.F.A (exec (.For (.Name x px) iter b [] pos) Z.F.au) (mf Z O s K) (xJ Z O s K.E) s:=λO1 uf P V1 u hH G q=>
  Cb (aq (SI.ex h P r s _ _ G q) (λxv s1 h=>aq h (λitv s2 p=>by
   obtain⟨D,T2,q⟩:=p
   rw[hH]at D
   exact sa H gv hk h1 V V1 u D T2 q) λU U p=>eK.px G p) λU U p=>eK.px G p) hs
 rcases xK (eY q) with q|q
 ·exact go O δ _ V (fq.cm _ _) rfl V.g<|sd (g:=λU r xs=>dH (λd δ r=>y (di δ i d) r) xs δ r) q λU U U U q=>q
 ·exact go O0 (rd δ) _ (eK.rel V.LW) (Pf _ _) yG.symm V.LW (sd (g:=λd r xs=>dH (λd δ r=>y (di δ i d) r) xs (if bA d=true then δ else rd δ) r) q λd xs r e q=>by
   rwa [aN λh=>TZ h e]at q)
theorem T.aev{x:b9}{px:jt}{iter:aX}{b:aa d6}{pos:jt}{z:Dl->Rw->bc (aa DV)}(H:sH Z.F)(hs: ∀x,cH iter Z.F.au x=pure x)(gv:Z.F.Λ[i]?=some (some x))(hk:Z.F.au.kindOf x=some .local\/Z.F.au.kindOf x=some .cell)
  (h:SIk Y7 Z.F iter (λδ r=>(z δ r).bind λvs r=>bc.fG (fQ vs) r)) (h1: ∀ex,T ⟨Z.F,ex,Z.sG⟩ (execs b Z.F.au) y):
  T Z (exec (.For (.Name x px) iter b [] pos) Z.F.au) (λδ r=>(d9 (λxs=>xs.all bA) z δ r).fZ λp r=>dO (fQ p.1) λxs=>dH (λd δ r=>y (di δ i d) r) xs p.2 r):=λO vs δ r s K V q=>by
 rcases xK (eY q) with q|q
 ·exact Cb (aq (h _ r s _ _ V.g (sd (g:=λU r xs=>dH (λd δ r=>y (di δ i d) r) xs δ r) (P:=λxs r=>(dH (λd δ r=>y (di δ i d) r) xs δ r).wp K) q λU U U U q=>q)) (λxv s1 h=>aq h (λitv s2 p=>by
   obtain⟨D,T2,q⟩:=p
   exact sa H gv hk h1 V V (fq.cm _ _) (D _) T2 q) λU U p=>eK.px V.g p) λU U p=>eK.px V.g p) hs
 ·exact Cb (aq (h _ r s _ _ V.LW (sd (g:=λd r xs=>dH (λd δ r=>y (di δ i d) r) xs (if d.all bA=true then δ else rd δ) r) (P:=λxs r=>(dH (λd δ r=>y (di δ i d) r) xs δ r).wp K\/(dH (λd δ r=>y (di δ i d) r) xs (rd δ) r).wp K) q λd xs r e q=>by
   by_cases hp:d.all bA=true
   ·rw[aJ hp]at q;exact .inl q
   ·rw[aN hp]at q;exact .inr q)) (λxv s1 h=>aq h (λitv s2 p=>by
   obtain⟨D,T2,q⟩:=p
   rcases q with q|q
   ·exact sa H gv hk h1 V V (fq.cm _ _) (D _) T2 q
   ·exact sa H gv hk h1 V (eK.rel V.LW) (Pf _ _) (D _) T2 q) λU U p=>eK.px V.LW p) λU U p=>eK.px V.LW p) hs
end
section
variable{Z:Zs}{O O1:av->aa az}{vs:aa (ag ak)}{δ uf:Sl}{r r0 r1 r2:Rw}{s s0 s1 s2:af}{K:SK}{E:aa av->Rw->Prop}{i:av}{x y z:Dl->Rw->bc DV}{RE:ak->af->Prop}
theorem vP(e:dJ δ i=some d):δ[i]?=some (some (true,d)):=by
 obtain @⟨o,e1,f1⟩:=bind_some e
 obtain @⟨p,e2,f2⟩:=bind_some f1
 obtain⟨b,x⟩:=p
 cases b with
 |false=>exact nn f2
 |true=>cases f2;rw[e1,e2]
def AB(Z:Zs)(i:av)(v:ak):Prop:=i=0-> ∀w,Z.sG=some w->v=w
theorem AB.cx(P:AB Z i v)(V:eK Z O vs δ r s)(hv:vs[i]?=some (some v))(hw:Z.sG=some w)(e:(δ.set i o)[0]?=some (some (true,d))):vs[0]?=some (some w):=by
 by_cases z:0=i
 ·subst z
  exact P rfl w hw▸hv
 ·exact V.sG w d hw<|(fT z).symm.trans e
theorem eK.mut(V:eK Z O vs δ r s)(m:a∈O i)(hv:vs[i]?=some (some v))(P:AB Z i v)(sb:bj a s.heap h')(Bt: ∃o,s.heap.get? a=some o/\ ¬eJ o)(is: ∃o,h'.get? a=some o)(D:nQ Z.F.c (HO Z O) h' v d' (O i)):
  eK Z O vs (gI δ i d') r {s with heap:=h',toks:=tk}/\oh Z O r s {s with heap:=h',toks:=tk}:=by
 have o:=fE V m
 have G:=V.g.E0 (tk:=tk) (.inr ⟨i,m⟩) (V.pl i a m).cV o.1 o.2.1 o.2.2 sb Bt is
 refine⟨⟨G.f9 λj d e=>?_,λj d e=>?_,V.E4,V.pl,λw d hw e=>P.cx V hv hw e⟩,⟨G.wd,.mG sb is<|.inr<|.inr ⟨i,m⟩,⟨_,_,rfl⟩⟩⟩
 ·rcases fS (gj.mp e) with⟨_,f⟩|⟨_,f⟩
  ·cases f
  ·exact gj.mpr f
 ·rcases fS e with⟨rfl,f⟩|⟨z,e⟩
  ·cases f
   exact⟨v,hv,D⟩
  ·obtain⟨u,e1,D1⟩:=V.nF j d e
   exact⟨u,e1,D1.aW (.mG sb<|.inr ⟨i,m⟩) (.cm _ _) λb mb o e=>(sb.2 b λq=>z<|V.E4 j i a (q▸mb) m).trans e⟩
inductive aau(Z:Zs)(O:av->aa az)(vs:aa (ag ak))(i:av)(d:DV)(s:af)(v:ak):Prop
 |mk (hv:vs[i]?=some (some v)) (D:nQ Z.F.c (HO Z O) s.heap v d (O i)) (P:AB Z i v)
theorem eK.ro(V:eK Z O vs δ r s)(e:dJ δ i=some d): ∃v,aau Z O vs i d s v:=by
 obtain⟨v,e1,D⟩:=V.nF i d<|vP e
 exact⟨v,e1,D,λz w hw=>by
  subst z
  exact am (am (e1.symm.trans (V.sG w d hw (vP e))))⟩
theorem nQ.Hi{H:az->Prop}(x:nQ c H h v d L)(n:Ct d=none):ii c H h v d L:=by
 rcases x with x|x
 ·exact x
 ·obtain⟨_,_,_,_,_,_,_,rfl,_⟩:=x
  exact nn n.symm
theorem eK.HE(V:eK Z O vs δ r s)(hv:vs[i]?=some (some v))(Pv:AB Z i v)(P:TR Z.F.c (HO Z O) s v d' (O i) s'):eK Z O vs (gI δ i d') r s'/\oh Z O r s s':=by
 obtain⟨e,eL,D,sb,⟨o,e1,n⟩,⟨h',tk,rfl⟩⟩:=P
 have m:_∈O i:=eL.symm▸List.mem_singleton_self _
 obtain⟨o',e2⟩:=D.jx.2 _ m
 exact V.mut m hv Pv sb ⟨o,e1,n⟩ ⟨o',e2⟩<|.inl D
theorem LZ{x d y}(e:Lr x d=some y): ∃xs,x=.c xs/\xs.length<9999/\y=.c (xs++[d]):=by
 obtain⟨e1,e⟩:=bind_some e
 exact⟨_,DV.po e1,ah<|eh e,dT e⟩
theorem wK{H:az->Prop}(D:iy c H s.heap v xs L):s.TypeIs v "list"/\ ∀a,v=.ref a-> ∃ob,s.heap.get? a=some ob/\ob.dict=none:=by
 obtain⟨mV,_,ho,_⟩:=D
 refine aK mV ?_
 exact⟨⟨_,ho,rfl⟩,λb z=>by cases z;exact⟨_,ho,rfl⟩⟩
theorem T.append(O1:Z.F.c.Ok)(hn:n=uz .append)(hst:cD a=true)(hline:(apos.endLine==pos.line)=true)(hsw:dB (.Call (.Attribute (.Name X px) n apos) [a] [] pos) none epos.line Z.F.au=pure false)
  (gv:Z.F.Λ[i]?=some (some X)) (hk:Z.F.au.kindOf X=some .local\/Z.F.au.kindOf X=some .cell\/Z.F.au.kindOf X=some .free) (hd:(X==("__debug__":b9))=false) (hc:(X==("__classdict__":b9))=false) (h:SE Z.F a x):
  T Z (exec (.Expr (.Call (.Attribute (.Name X px) n apos) [a] [] pos) epos) Z.F.au) (λδ r=>dO ((dJ δ i).bind DV.bW) λU=>(d9 bA x δ r).fZ λp r=>dO ((dJ p.2 i).bind λx=>Lr x p.1) λy=>.a (gI p.2 i y) r):=λO vs δ r s K V q=>by
 refine aK hn ?_
 refine aU λG9 k9=>?_
 obtain⟨xs,ex,q⟩:=ft q
 obtain @⟨d,e1,f1⟩:=bind_some ex
 refine k9 ?_
 cases DV.po f1
 refine aU λG9 k9=>?_
 obtain⟨v,hv,D⟩:=V.ro e1
 refine k9 ?_
 have t:=wK (s:=s) (show iy _ _ _ _ _ _ from D.Hi rfl)
 refine GQ (td (gT rfl) (HC (by rw[bw,hst];rfl)<|Nat.lt_of_sub_ne_zero nofun) hline rfl<|kR (qc gv hk hc V.g hv ?_) hd) (by unfold Ee;rw[V.g.ev.kind];rfl) hsw
 refine⟨"list","list.append",l6,F.slot_list_append,F.type_list_append,t.1,t.2,jk (by rw[bw,hst];rfl) (V.g.wd.K O1) (.inl ⟨_,rfl⟩)<|bP (da hst)<|V.qA qB h (eY q) λO' δ' u d s1 r1 su U D1 V1 T1 q=>eu ⟨V1.g.wd.K O1,?_⟩⟩
 refine aU λG9 k9=>?_
 obtain⟨y,ey,q⟩:=ft q
 obtain @⟨x2,e2,f2⟩:=bind_some ey
 refine k9 ?_
 obtain⟨ys,rfl,hz,rfl⟩:=LZ f2
 refine aU λG9 k9=>?_
 obtain⟨v',hv',D2,Pv⟩:=V1.ro e2
 refine k9 ?_
 cases hv.symm.trans hv'
 refine aq (vN (λb m=>.inr ⟨i,m⟩) (show iy _ _ _ _ _ _ from D2.Hi rfl) D1 hz) (λw s2 p=>?_) λU U z=>z.elim
 obtain⟨aav,p⟩:=p
 refine aK aav ?_
 have k:=V1.HE hv' Pv p
 exact⟨k.1,(oh.of T1).seq su k.2,su.trans (.of T1)<|fq.cm _ _,q⟩
end
section
variable{Z:Zs}{O O1:av->aa az}{vs:aa (ag ak)}{δ uf:Sl}{r r0 r1 r2:Rw}{s s0 s1 s2:af}{K:SK}{E:aa av->Rw->Prop}{i:av}{x y z:Dl->Rw->bc DV}{RE:ak->af->Prop}
structure jl(F:Fx)(i:av)(X:b9):Prop where
 gv:F.Λ[i]?=some (some X)
 hk:F.au.kindOf X=some .local\/F.au.kindOf X=some .cell\/F.au.kindOf X=some .free
 hd:(X==("__debug__":b9))=false
 hc:(X==("__classdict__":b9))=false
theorem jl.eval{Q:ak->af->Prop}(N:jl Z.F i X)(V:eK Z O vs δ r s)(hv:vs[i]?=some (some v))(q:Q v s):wpAny Z.F.M Z.F.A (eval (.Name X px) Z.F.au) Q RE s:=
 kR (qc N.gv N.hk N.hc V.g hv q) N.hd
theorem T.reverse(O1:Z.F.c.Ok)(hn:n=uz .reverse)(hline:(apos.endLine==pos.line)=true)(hsw:dB (.Call (.Attribute (.Name X px) n apos) [] [] pos) none epos.line Z.F.au=pure false)(N:jl Z.F i X):
  T Z (exec (.Expr (.Call (.Attribute (.Name X px) n apos) [] [] pos) epos) Z.F.au) (λδ r=>dO ((dJ δ i).bind DV.bW) λxs=>.a (gI δ i<|.c xs.reverse) r):=λO vs δ r s K V q=>by
 refine aK hn ?_
 refine aU λG9 k9=>?_
 obtain⟨xs,ex,q⟩:=ft q
 obtain @⟨d,e1,f1⟩:=bind_some ex
 refine k9 ?_
 cases DV.po f1
 refine aU λG9 k9=>?_
 obtain⟨v,hv,D,Pv⟩:=V.ro e1
 refine k9 ?_
 have D:iy _ _ _ _ _ _:=D.Hi rfl
 have t:=wK (s:=s) D
 refine GQ (td (gT rfl) (HC rfl (by decide)) hline rfl<|N.eval V hv ?_) (by unfold Ee;rw[V.g.ev.kind];rfl) hsw
 refine⟨"list","list.reverse",l6,Sq,F.type_list_reverse,t.1,t.2,jk rfl (V.g.wd.K O1) (.inl ⟨_,rfl⟩)<|eu ⟨V.g.wd.K O1,?_⟩⟩
 refine aq (HG (λb m=>.inr ⟨i,m⟩) D) (λw s2 p=>?_) λU U z=>z.elim
 obtain⟨yu,p⟩:=p
 refine aK yu ?_
 have k:=V.HE hv Pv p
 exact⟨k.1,k.2,fq.cm _ _,q⟩
theorem fq.hup(u:fq O O1 s):qR (HO Z O) (HO Z O1) s.heap:=λb q=>by
 rcases q with q|⟨j,m⟩
 ·exact .inl<|.inl q
 ·exact(u j b m).imp .inr id
theorem L5{x i v y}(e:oR x i v=some y):Ct x=none:=by
 cases x with
 |n=>
  rcases dC e with e|e
  ·exact nn e
  rcases dC e with e|e
  ·exact nn e
  ·exact nn e
 |_=>rfl
theorem T.Xz(hsw:dB e (some<|.Subscript (.Name X nx) ie px) pos.line Z.F.au=pure false)(N:jl Z.F i X)(h1:SE Z.F e x)(h2:SE Z.F ie y):
  T Z (exec (.Assign [.Subscript (.Name X nx) ie px] e pos) Z.F.au) (λδ r=>(d9 bA x δ r).fZ λp r=>dO (dJ p.2 i) λU=>(d9 bA y p.2 r).fZ λq r=>dO ((dJ q.2 i).bind λx=>oR x q.1 p.1) λz=>.a (gI q.2 i z) r):=λO vs δ r s K V q=>
 NK (V.qA qB h1 (eY q) λO1 uf v d s1 r1 u1 U D1 V1 T1 q=>by
  refine aU λG9 k9=>?_
  obtain⟨_,e1,q⟩:=ft q
  obtain⟨w,hw,_⟩:=V1.ro e1
  refine k9 ?_
  refine N.eval V1 hw<|aq (V1.qA (R:=λu s2=>wpAny Z.F.M Z.F.A (wv w u v) (λU s3=>mf Z O s K .next s3) (xJ Z O s K.E) s2) qB h2 (eY q) λO2 iZ u d2 s2 r2 u2 V1' D2 V2 T2 q=>?_) (λU U z=>z) λU U p=>p.hF (.of T1) u1
  refine aU λG9 k9=>?_
  obtain⟨z,ez,q⟩:=ft q
  obtain @⟨x2,e2,f2⟩:=bind_some ez
  obtain⟨w',hw',D3,Pv⟩:=V2.ro e2
  refine k9 ?_
  cases hw.symm.trans hw'
  have D1':dm Z.F.c (HO Z O2) s2.heap v d:=D1.aW (V1.g.g9 T2) u2.hup
  refine aq (OT (λb m=>.inr ⟨i,m⟩) (D3.Hi<|L5 f2) D2 D1' f2) (λU s3 p=>?_) λU U z=>z
  have k:=V2.HE hw' Pv p
  exact⟨k.1,((oh.of T1).seq u1 (.of T2)).seq (u1.trans (.of T1) u2) k.2,u1.trans (.of T1) u2,q⟩) hsw
inductive JT(c:Cx)(H:az->Prop)(h:cy)(v:ak)(L:aa az)(kd it cx:DV):Prop
 |mk {a dx m} (vk vi va:ak) {Li La} (e:v=.ref a) (eL:L=a::dx::(Li++La)) (nd:L.Nodup) (ho:h.get? a=some (iF (c.cls 0) dx)) (hm:j6 h dx m 5)
   (hf: ∀f≤5,m (br<|aO f)=[(0,vk),(1,vi),(2,va),(3,qK false),(4,.bool false)].lookup f) (hk:dm c H h vk kd) (hi:ii c H h vi it Li) (ha:ii c H h va cx La)
theorem nQ.Em{H:az->Prop}(x:nQ c H h v d L)(e:Ct d=some p):JT c H h v L p.1 p.2.1 p.2.2:=by
 rcases x with x|⟨vk,vi,va,kd,it,cx,ev,rfl,eL,nd,ho,hm,hf,hk,hi,ha⟩
 ·cases d with
  |n=>exact x.elim
  |_=>exact nn e
 ·cases e
  exact⟨vk,vi,va,ev,eL,nd,ho,hm,hf,hk,hi,ha⟩
end
section
variable{Z:Zs}{O O1:av->aa az}{vs:aa (ag ak)}{δ uf:Sl}{r r0 r1 r2:Rw}{s s0 s1 s2:af}{K:SK}{E:aa av->Rw->Prop}{i:av}{x y z:Dl->Rw->bc DV}{RE:ak->af->Prop}
theorem ii.XA{H:az->Prop}(x:ii c H h v d L):S7 v=true:=(pr<|x.nB (H':=λU=>cC) (λU z=>z.elim) λU U z=>z.elim).2.2
theorem T6{Q:ak->af->Prop}(O:c.Ok)(W:Wd c r s)(ho:s.heap.get? a=some (iF (c.cls 0) dx))(hm:j6 s.heap dx m n)(hf:f<=4)(e:m (br<|aO f)=some u)(hh:S7 u=true)(q:Q u {s with toks:=s.toks+1}):
  wpAny (model c.prog c.w) A (te (.ref a) (br<|aO f) ex) Q RE s:=by
 refine aU λG9 k9=>?_
 refine A9 hm λod es ep h9=>Y4 h9 λhd Hn W6 hm U=>?_
 refine k9 ?_
 have P:=O.Hm<|bD 2
 exact get_value (W.K O) ⟨ho,rfl,rfl,hd⟩ (Ef P.vg).1 (S8 (attr:=none) P.dict (P.fld f hf).1 rfl (v:=u) (by rw[rZ Hn W6 hm,e])) hh q
inductive V9(Z:Zs)(O:av->aa az)(i:av)(s s':af)(P:cy->Prop):Prop
 |mk {a h' tk'} (e:s'={s with heap:=h',toks:=tk'}) (m:a∈O i) (sb:bj a s.heap h') (Bt: ∃o,s.heap.get? a=some o/\ ¬eJ o) (is: ∃o,h'.get? a=some o) (p:P h')
inductive E7(Z:Zs)(O:av->aa az)(i f:av)(kd it cx d:DV)(s:af)(v u:ak):Prop
 |mk {a dx m n L} (e:v=.ref a) (ma:a∈O i) (mx:dx∈O i) (ho:s.heap.get? a=some (iF (Z.F.c.cls 0) dx)) (hm:j6 s.heap dx m n) (hu:m (br (aO f))=some u) (D:ii Z.F.c (HO Z O) s.heap u d L) (mL: ∀b∈L,b∈O i)
   (k: ∀d' s' tk,TR Z.F.c (HO Z O) {s with toks:=tk} u d' L s'->V9 Z O i s s' λh'=>nQ Z.F.c (HO Z O) h' v (if f=1 then jD kd d' cx else jD kd it d')<|O i)
set_option tactic.hygienic true in
theorem JU(A:JT Z.F.c (HO Z O) s.heap v (O i) kd it cx)(f:av)(hf:f=1\/f=2): ∃u,E7 Z O i f kd it cx (if f=1 then it else cx) s v u:=by
 obtain⟨vk,vi,va,CL,eL,nd,ho,hm,hfl,hk,hi,ha⟩:=A
 refine aK CL ?_
 rename_i a dx m Li La
 have key: ∀{u:ak} {d':DV} {L:aa az} {s':af} {tk} {P:cy->Prop},(∀b∈L,b∈O i/\b≠a/\b≠dx)->TR Z.F.c (HO Z O) {s with toks:=tk} u d' L s'->
   (∀b h',b∈O i->bj b s.heap h'->L=[b]->ii Z.F.c (HO Z O) h' u d' L->h'.get? a=some (iF (Z.F.c.cls 0) dx)->j6 h' dx m 5->P h')->V9 Z O i s s' P:=λhL P k=>by
  obtain⟨e,rfl,D,sb,⟨o,e1,n⟩,⟨h',tk',rfl⟩⟩:=P
  have M:=hL _<|.head _
  exact⟨rfl,M.1,sb,⟨o,e1,n⟩,D.jx.2 _<|.head _,k _ h' M.1 sb rfl D ((sb.2 a M.2.1.symm).trans ho)<|hm.keep λo e=>(sb.2 dx M.2.2.symm).trans e⟩
 have oa:a∈O i:=by rw[eL];exact .head _
 have ox:dx∈O i:=by rw[eL];exact .tail _<|.head _
 rw[eL]at nd
 refine aU λG9 k9=>?_
 obtain⟨na,nd⟩:=bB.mp nd
 obtain⟨nx,nd⟩:=bB.mp nd
 refine k9 ?_
 have mi: ∀b∈Li,b∈O i/\b≠a/\b≠dx:=λb m=>⟨by rw[eL];exact .tail _<|.tail _<|bO _ m,λz=>na<|z▸.tail _ (bO _ m),λz=>nx<|z▸bO _ m⟩
 have ma: ∀b∈La,b∈O i/\b≠a/\b≠dx:=λb m=>⟨by rw[eL];exact .tail _<|.tail _<|cU _ m,λz=>na<|z▸.tail _ (cU _ m),λz=>nx<|z▸cU _ m⟩
 rcases hf with rfl|rfl
 ·refine⟨_,.mk rfl oa ox ho hm (hfl 1 (by decide)) hi (λb m=>(mi b m).1) λd' s' tk P=>key mi P λb h' m1 sb eb D ho' hm'=>.inr ?_⟩
  have f2:mF (HO Z O) s.heap h':=.mG sb<|.inr ⟨i,m1⟩
  exact⟨vk,vi,va,kd,d',cx,rfl,rfl,eL,by rw[eL];exact bB.mpr ⟨na,bB.mpr ⟨nx,nd⟩⟩,ho',hm',hfl,hk.g9 f2,D,ha.aW f2 (.cm _ _) λc m o e=>(sb.2 c λz=>(fJ.mp nd).2.2 b (eb▸.head _) c m z.symm).trans e⟩
 ·refine⟨_,.mk rfl oa ox ho hm (hfl 2 (by decide)) ha (λb m=>(ma b m).1) λd' s' tk P=>key ma P λb h' m1 sb eb D ho' hm'=>.inr ?_⟩
  have f2:mF (HO Z O) s.heap h':=.mG sb<|.inr ⟨i,m1⟩
  exact⟨vk,vi,va,kd,it,d',rfl,rfl,eL,by rw[eL];exact bB.mpr ⟨na,bB.mpr ⟨nx,nd⟩⟩,ho',hm',hfl,hk.g9 f2,hi.aW f2 (.cm _ _) λc m o e=>(sb.2 c λz=>(fJ.mp nd).2.2 c m b (eb▸.head _) z).trans e,D⟩
end
section
variable{Z:Zs}{O O1:av->aa az}{vs:aa (ag ak)}{δ uf:Sl}{r r0 r1 r2:Rw}{s s0 s1 s2:af}{K:SK}{E:aa av->Rw->Prop}{i:av}{x y z:Dl->Rw->bc DV}{RE:ak->af->Prop}
theorem j6.same(x:j6 h dx m n)(y:j6 h dx m' n'):m=m':=by
 refine aU λG9 k9=>?_
 refine A9 x λo es ep h9=>Y4 h9 λe hd U hm U=>?_
 refine A9 y λo' es' Xd h9=>Y4 h9 λe' hd' U hm' U=>?_
 refine k9 ?_
 cases e.symm.trans e'
 have e2:=hd.symm.trans hd'
 injection e2 with e2
 subst e2
 exact funext λn=>(hm n).symm.trans<|hm' n
theorem eK.Wa(V:eK Z O vs δ r s)(e:(dJ δ i).bind Ct=some p): ∃v,vs[i]?=some (some v)/\JT Z.F.c (HO Z O) s.heap v (O i) p.1 p.2.1 p.2.2/\AB Z i v:=by
 refine aU λG9 k9=>?_
 obtain @⟨d,e1,e2⟩:=bind_some e
 obtain⟨v,hv,D,Pv⟩:=V.ro e1
 refine k9 ?_
 exact⟨v,hv,D.Em e2,Pv⟩
theorem E7.same(V:eK Z O vs δ r s)(T:gc Z.F r1 s s1)(P:E7 Z O i f kd it cx d s v u)(P':E7 Z O i f kd it cx d' s1 v u'):u=u':=by
 obtain⟨rfl,ma,mx,ho,hm,hu,_⟩:=P
 obtain⟨e3,ma3,mx3,ho3,hm3,hu3,_⟩:=P'
 cases e3
 have oa:=fE V ma
 have ox:=fE V mx
 have e5:_=_:=am<|aE Obj.dict<|am<|(T.kp.pq _ _ ho oa.1 oa.2.1).symm.trans ho3
 subst e5
 have e6:=(hm.keep λo e=>T.kp.pq _ o e ox.1 ox.2.1).same hm3
 subst e6
 exact am<|hu.symm.trans hu3
theorem E7.vg{Q:ak->af->Prop}(O1:Z.F.c.Ok)(W:Wd Z.F.c r s)(hf:f<=4)(P:E7 Z O i f kd it cx d s v u)(q:Q u {s with toks:=s.toks+1}):wpAny Z.F.M Z.F.A (te v (br<|aO f) ex) Q RE s:=by
 obtain⟨mV,ma,mx,ho,hm,hu,D,_⟩:=P
 refine aK mV ?_
 exact T6 O1 W ho hm hf hu D.XA q
theorem E7.HE{N:Sl->Rw->Prop}(V:eK Z O vs δ r s)(hv:vs[i]?=some (some v))(Pv:AB Z i v)(P:E7 Z O i f kd it cx d s v u)(Di:dm Z.F.c (HO Z O) s.heap ix d2)(Dw:dm Z.F.c (HO Z O) s.heap w d1)(e:oR d d2 d1=some yv)(q:N (gI δ i (if f=1 then jD kd yv cx else jD kd it yv)) r):
  wpAny Z.F.M Z.F.A (wv u ix w) (λU s3=>oj Z O s N s3) RE s:=by
 obtain⟨_,_,_,_,_,_,D,mL,k⟩:=P
 refine aq (OT (λb m=>.inr ⟨i,mL b m⟩) D Di Dw e) (λU s3 P=>?_) λU U z=>z
 obtain @⟨a',h',tk',oS,m1,sb,Bt,is,D⟩:=k yv s3 s.toks P
 refine aK oS ?_
 have k:=V.mut (tk:=tk') m1 hv Pv sb Bt is D
 exact⟨k.1,k.2,fq.cm _ _,q⟩
theorem T7{f:av}{p:DV×DV×DV}{d d2 r}(hf:f=1\/f=2)(q:(if f=1 then dO (p.2.1.bW.bind λU=>oR p.2.1 d2 d) λy=>.a (gI δ i (jD p.1 y p.2.2)) r
      else if f=2 then dO (p.2.2.dN.bind λU=>oR p.2.2 d2 d) λy=>.a (gI δ i<|jD p.1 p.2.1 y) r
      else .e:SR).wp K): ∃yv,oR (if f=1 then p.2.1 else p.2.2) d2 d=some yv/\K.N (gI δ i (if f=1 then jD p.1 yv p.2.2 else jD p.1 p.2.1 yv)) r:=by
 rcases hf with rfl|rfl
 ·refine bN (ft q) λyv h9=>cK h9 λey q=>?_
  obtain⟨_,ey⟩:=bind_some ey
  exact⟨yv,ey,q⟩
 ·refine bN (ft q) λyv h9=>cK h9 λey q=>?_
  obtain⟨_,ey⟩:=bind_some ey
  exact⟨yv,ey,q⟩
theorem T.Pn{X n}{f}{nx ap px pos}{ie e}(O1:Z.F.c.Ok)(hn:n=br (aO f))(hf:f=1\/f=2)
  (he:eval (.Attribute (.Name X nx) n ap) Z.F.au=(do
   let v ←eval (.Name X nx) Z.F.au
   jS ap.atName
   let r ←jr [v] (te v n true)
   pV (.Name X nx) v r
   pure r))
  (hsw:dB e (some<|.Subscript (.Attribute (.Name X nx) n ap) ie px) pos.line Z.F.au=pure false) (N:jl Z.F i X) (h1:SE Z.F e x) (h2:SE Z.F ie y):
  T Z (exec (.Assign [.Subscript (.Attribute (.Name X nx) n ap) ie px] e pos) Z.F.au) (λδ r=>wD x y i f δ r):=λO vs δ r s K V q=>by
 subst hn
 obtain⟨p,ep,q⟩:=ft q
 refine NK (aq (h1.Aw V.g (eY q) λw d s1 r1 D1 G1 T1 q=>?_) (λU U z=>z) λU U p=>eK.px V.g p) hsw
 have V1:=V.kG T1
 obtain⟨v,hv,A,_⟩:=V1.Wa ep
 obtain⟨u1,P⟩:=JU A f hf
 refine G5 (N.eval V1 hv<|P.vg O1 V1.g.wd (by rcases hf with rfl|rfl<;>decide) ?_) he
 have Tt:=gc.nE (F:=Z.F) V1.g.wd<|s1.toks+1
 have V2:=V1.kG Tt
 refine aq (h2.Aw V2.g (eY q) λu d2 s2 r2 D2 G2 T2 q=>?_) (λU U z=>z) λU U p=>(eK.px V2.g p).hF (.of<|T1.seq Tt)<|fq.cm _ _
 have V3:=V2.kG T2
 obtain⟨v',hv',A3,Pv⟩:=V3.Wa ep
 cases hv.symm.trans hv'
 obtain⟨u3,P3⟩:=JU A3 f hf
 cases P.same V1 (Tt.seq T2) P3
 obtain⟨yv,ey,q⟩:=T7 hf q
 exact aq (P3.HE V3 hv' Pv D2 (D1.g9<|V2.g.g9 T2) ey q) (λU U p=>oj.hF (.of<|(T1.seq Tt).seq T2) (fq.cm _ _) p) λU U z=>z
theorem eK.aew(V:eK Z O vs δ r s)(e:dJ δ j=some d):eK Z (iK O j []) vs (di δ j d) r s:=by
 have NE: ∀k b,b∈iK O j [] k->k≠j/\b∈O k:=λk b m=>by
  rcases e9 m with⟨_,m⟩|m
  ·exact(nomatch m)
  ·exact m
 have le: ∀b,HO Z (iK O j []) b->HO Z O b:=λb=>rk
 refine⟨V.g.few le (λb q=>.inl<|.inl q) λk d' h=>?_,λk d' h=>?_,λk l b m m'=>V.E4 k l b (NE k b m).2 (NE l b m').2,λk b m=>V.pl k b (NE k b m).2,λw d' hw h=>?_⟩
 ·rcases fS (gj.mp h) with⟨rfl,f⟩|⟨_,f⟩
  ·cases f
   obtain⟨v,hv,D⟩:=V.nF k d<|vP e
   refine⟨v,hv,D.nB le λa m q=>?_⟩
   rcases q with q|⟨l,m'⟩
   ·exact(V.pl k a m).gQ q
   ·exact(NE l a m').1<|V.E4 l k a (NE l a m').2 m
  ·obtain⟨u,e1,D⟩:=V.g.nB k d'<|gj.mpr f
   exact⟨u,e1,D.aW (.cm _ _)<|.f9 le⟩
 ·rcases fS h with⟨_,f⟩|⟨z,f⟩
  ·cases f
  ·obtain⟨u,e1,D⟩:=V.nF k d' f
   refine aK (qf z) ?_
   exact⟨u,e1,D.aW (.cm _ _) (.f9 le) λU U U e=>e⟩
 ·rcases fS h with⟨_,f⟩|⟨_,f⟩
  ·cases f
  ·exact V.sG w d' hw f
theorem T8:Av ex δ=δ\/ ∃j d,dJ δ j=some d/\Av ex δ=di δ j d:=by
 cases h:ex.VF with
 |none=>exact .inl (aE (λo=>(xb o λj=>(dJ δ j).map (di δ j)).getD δ) h)
 |some j=>
  have e:=aE (λo=>(xb o λj=>(dJ δ j).map<|di δ j).getD δ) h
  cases h2:dJ δ j with
  |none=>exact .inl<|e.trans<|aE (λo=>(qv (di δ j) o).getD δ) h2
  |some d=>exact .inr ⟨j,d,h2,e.trans<|aE (λo=>(qv (di δ j) o).getD δ) h2⟩
theorem T.T9(O1:Z.F.c.Ok)(hn:n=br (aO f))(hf:f=1\/f=2)
  (he:eval (.Attribute (.Name X nx) n ap) Z.F.au=(do
   let v ←eval (.Name X nx) Z.F.au
   jS ap.atName
   let r ←jr [v] (te v n true)
   pV (.Name X nx) v r
   pure r))
  (hsw:dB e (some<|.Subscript (.Attribute (.Name X nx) n ap) ie px) pos.line Z.F.au=pure false) (N:jl Z.F i X) (h1:SE Z.F e x) (h2:SE Z.F ie y):
  T Z (exec (.Assign [.Subscript (.Attribute (.Name X nx) n ap) ie px] e pos) Z.F.au) (λδ r=>wD x y i f (Av ex δ) r):=λO vs δ r s K V q=>by
 have t:=T.Pn O1 hn hf he hsw N h1 h2
 have q:(wD x y i f (Av ex δ) r).wp K:=q
 rcases T8 (ex:=ex) (δ:=δ) with h|⟨j,d,ed,h⟩
 ·rw[h]at q
  exact t O vs δ r s K V q
 ·rw[h]at q
  exact C0 (.cm V.g.wd) LX<|t (iK O j []) vs (di δ j d) r s K (V.aew ed) q
end
section
variable{Z:Zs}{O O1:av->aa az}{vs:aa (ag ak)}{δ uf:Sl}{r r0 r1 r2:Rw}{s s0 s1 s2:af}{K:SK}{E:aa av->Rw->Prop}{i:av}{x y z:Dl->Rw->bc DV}{RE:ak->af->Prop}
theorem eK.aex(V:eK Z O vs δ r s)(T:gc Z.F r1 s s1)(n: ∀b∈L,s.heap.get? b=none)(th: ∀b∈L,∃o,s1.heap.get? b=some o):eK Z (iK O i<|O i++L) vs (δ.set i none) r1 s1/\qR (HO Z O) (HO Z<|iK O i<|O i++L) s.heap:=by
 have mem: ∀j b,b∈iK O i (O i++L) j->b∈O j\/(j=i/\b∈L):=λj b m=>by
  rcases e9 m with⟨rfl,m⟩|⟨_,m⟩
  ·exact(cY.mp m).imp id λm=>⟨rfl,m⟩
  ·exact .inl m
 have up:qR (HO Z O) (HO Z<|iK O i<|O i++L) s.heap:=λb q=>by
  rcases q with q|⟨j,m⟩
  ·exact .inl<|.inl q
  ·exact(mem j b m).imp (λm=>.inr ⟨j,m⟩) λm=>n b m.2
 have NE: ∀j b,b∈O j->b∈iK O i (O i++L) j:=λj b m=>by
  by_cases z:j=i
  ·subst z;rw[jN];exact bO _ m
  ·rw[qf z];exact m
 have nO: ∀j b,b∈O j->b∉L:=λj b m m'=>by
  refine bN (V.g.iu b<|.inr ⟨j,m⟩) λo e=>?_
  exact nn<|(n b m').symm.trans e
 have G:=V.g.up T (H':=HO Z<|iK O i<|O i++L) (λb q=>q.imp id λ⟨j,m⟩=>⟨j,NE j b m⟩) up λb q=>by
  rcases q with q|⟨j,m⟩
  ·refine bN (V.g.iu b<|.inl q) λo e=>?_
   exact T.kp.cE b o e
  ·rcases mem j b m with m|m
   ·refine bN (V.g.iu b<|.inr ⟨j,m⟩) λo e=>?_
    exact T.kp.cE b o e
   ·exact th b m.2
 refine⟨⟨G.f9 λj d e=>?_,λj d e=>?_,λj k b m m'=>?_,λj b m=>?_,λw d hw e=>?_⟩,up⟩
 ·have e:=gj.mp e
  by_cases z:j=i
  ·subst z
   rw[dy,aJ rfl]at e
   split at e
   ·exact nn<|am e
   ·exact nn e
  ·rw[fT z]at e
   exact gj.mpr e
 ·by_cases z:j=i
  ·subst z
   rw[dy,aJ rfl]at e
   split at e
   ·exact nn<|am e
   ·exact nn e
  ·rw[fT z]at e
   refine bN (V.nF j d e) λv h9=>cK h9 λe1 D=>?_
   refine aK (qf z) ?_
   exact⟨v,e1,D.aW (V.g.g9 T) up λa m o e=>T.kp.pq a o e (fE V m).1 (fE V m).2.1⟩
 ·rcases mem j b m with h|⟨rfl,h⟩
  ·rcases mem k b m' with h'|⟨rfl,h'⟩
   ·exact V.E4 j k b h h'
   ·exact absurd h'<|nO j b h
  ·rcases mem k b m' with h'|⟨rfl,h'⟩
   ·exact absurd h<|nO k b h'
   ·rfl
 ·rcases mem j b m with h|⟨_,h⟩
  ·exact V.pl j b h
  ·have e:=n b h
   exact⟨V.g.wd.gb e,λq=>by
    refine bN (V.g.iu b<|.inl q) λo e'=>?_
    exact nn (e.symm.trans e')⟩
 ·by_cases z:0=i
  ·subst z
   rw[dy,aJ rfl]at e
   split at e
   ·exact nn<|am e
   ·exact nn e
  ·exact V.sG w d hw<|(fT z).symm.trans e
theorem eK.aey(V:eK Z O vs δ r s)(m:a∈O i)(hv:vs[i]?=some (some v))(Pv:AB Z i v)(sb:bj a s.heap h')(Bt: ∃o,s.heap.get? a=some o/\ ¬eJ o)(is: ∃o,h'.get? a=some o)(lL: ∀b∈L,b∈O i)(D:nQ Z.F.c (HO Z O) h' v d' L):
  eK Z (iK O i L) vs (gI δ i d') r {s with heap:=h',toks:=tk}/\oh Z O r s {s with heap:=h',toks:=tk}:=by
 have o:=fE V m
 have G:=V.g.E0 (tk:=tk) (.inr ⟨i,m⟩) (V.pl i a m).cV o.1 o.2.1 o.2.2 sb Bt is
 have NE: ∀j b,b∈iK O i L j->b∈O j:=λj b m=>by
  rcases e9 m with⟨e,m1⟩|⟨_,m1⟩
  ·exact e▸lL b m1
  ·exact m1
 have le: ∀b,HO Z (iK O i L) b->HO Z O b:=λb q=>q.imp id λ⟨j,m⟩=>⟨j,NE j b m⟩
 refine⟨⟨G.few le (λb q=>.inl<|.inl q) λj d e=>?_,λj d e=>?_,λj k b m m'=>V.E4 j k b (NE j b m)<|NE k b m',λj b m=>V.pl j b<|NE j b m,λw d hw e=>Pv.cx V hv hw e⟩,⟨G.wd,.mG sb is<|.inr<|.inr ⟨i,m⟩,⟨_,_,rfl⟩⟩⟩
 ·rcases fS (gj.mp e) with⟨_,f⟩|⟨_,f⟩
  ·cases f
  ·refine bN (G.nB j d<|gj.mpr f) λu h9=>cK h9 λe1 D1=>?_
   exact⟨u,e1,D1.aW (.cm _ _)<|.f9 le⟩
 ·rcases fS e with⟨rfl,f⟩|⟨z,e⟩
  ·cases f
   refine aK jN ?_
   exact⟨v,hv,D.aW (.cm _ _) (.f9 le) λU U U e=>e⟩
  ·refine bN (V.nF j d e) λu h9=>cK h9 λe1 D1=>?_
   refine aK (qf z) ?_
   exact⟨u,e1,D1.aW (.mG sb<|.inr ⟨i,m⟩) (.f9 le) λb mb o e=>(sb.2 b λq=>z<|V.E4 j i a (q▸mb) m).trans e⟩
theorem Po(hf:f<=5)(h:f≠2):[(0,vk),(1,vi),(2,va),(3,qK false),(4,.bool false)].lookup f=[(0,vk),(1,vi),(2,w),(3,qK false),(4,.bool false)].lookup f:=by
 match f,h with
 |0,_=>rfl
 |1,_=>rfl
 |2,h=>exact absurd rfl h
 |3,_=>rfl
 |4,_=>rfl
 |5,_=>rfl
 |n+6,_=>exact absurd hf (by lia)
set_option tactic.hygienic true in
theorem Ua{N:Sl->Rw->Prop}(O1:Z.F.c.Ok)(V:eK Z O vs δ r s)(hv:vs[i]?=some (some v))(Pv:AB Z i v)(A:JT Z.F.c (HO Z O) s.heap v Lo kd it cx)(XD: ∀b∈Lo,b∈O i/\b∉L)(hL: ∀b∈L,b∈O i)(D:ii Z.F.c (HO Z O) s.heap w d L)
  (qn:N (gI δ i<|jD kd it d) r):wpAny Z.F.M Z.F.A (setAttr v (br<|aO 2) w) (λU s3=>oj Z O s N s3) RE s:=by
 obtain⟨vk,vi,va,rfl,rfl,nd,ho,hm,hf,hk,hi,ha⟩:=A
 rename_i a dx m Li La
 refine aU λG9 k9=>?_
 obtain⟨na,nd⟩:=bB.mp nd
 obtain⟨nx,nd⟩:=bB.mp nd
 have mx:=(XD dx<|.tail _<|.head _).1
 have ma:=(XD a<|.head _).1
 have ne:a≠dx:=λz=>na<|z▸.head _
 obtain⟨od,es,ep,hd,Hn,_⟩:=id hm
 refine k9 ?_
 refine yB O1 V.g.wd ho (bD 2) hm (by decide) (by decide) λh' tk hm' sb=>?_
 replace hm':=(hf 2 (by decide))▸hm'
 have f2:mF (HO Z O) s.heap h':=.mG sb<|.inr ⟨i,mx⟩
 have nL: ∀b,b∈L->b≠dx:=λb m z=>(XD dx<|.tail _<|.head _).2<|z▸m
 have D':=D.aW f2 (.cm _ _) λb m o e=>(sb.2 b<|nL b m).trans e
 have hi':=hi.aW f2 (.cm _ _) λb m o e=>(sb.2 b λz=>nx<|z▸bO _ m).trans e
 refine aU λG9 k9=>?_
 obtain⟨o',_,_,e',_⟩:=id hm'
 refine k9 ?_
 have NA: ∀b∈a::dx::(Li++L),b∈O i:=λb m=>by
  rcases a0.mp m with rfl|m
  ·exact ma
  rcases a0.mp m with rfl|m
  ·exact mx
  exact(cY.mp m).elim (λm=>(XD b<|.tail _<|.tail _<|bO _ m).1)<|hL b
 have nd2:(a::dx::(Li++L)).Nodup:=by
  refine bB.mpr ⟨λm=>?_,bB.mpr ⟨λm=>?_,fJ.mpr ⟨(fJ.mp nd).1,D.jx.1,λb m c m' e=>(XD b<|.tail _<|.tail _<|bO _ m).2<|e▸m'⟩⟩⟩
  ·rcases a0.mp m with m|m
   ·exact ne m
   ·exact(cY.mp m).elim (λm=>na<|.tail _<|bO _ m) (XD a<|.head _).2
  ·exact(cY.mp m).elim (λm=>nx<|bO _ m) (XD dx<|.tail _<|.head _).2
 have hf2: ∀f≤5,(if br (aO f)=br (aO 2) then some w else m<|br<|aO f)=[(0,vk),(1,vi),(2,w),(3,qK false),(4,.bool false)].lookup f:=λf hf5=>by
  by_cases z:f=2
  ·subst z;exact aJ rfl
  ·exact(aN λe=>z<|JI hf5 (by decide)<|og.mp e).trans<|(hf f hf5).trans<|Po hf5 z
 have k:=V.aey (tk:=tk) (L:=a::dx::(Li++L)) mx hv Pv sb ⟨od,hd,mr λvs z=>by rw[Hn]at z;exact absurd z (by simp)⟩ ⟨o',e'⟩ NA<|.inr ⟨vk,vi,w,kd,it,d,rfl,rfl,rfl,nd2,(sb.2 a ne).trans ho,hm',hf2,hk.g9 f2,hi',D'⟩
 exact⟨k.1,k.2,λj b m=>.inl (by
   rcases e9 m with⟨_,m⟩|⟨_,m⟩
   ·exact⟨i,NA b m⟩
   ·exact⟨j,m⟩),qn⟩
theorem T.C5(O1:Z.F.c.Ok)(hn:n=br (aO 2))(hsw:dB e (some<|.Attribute (.Name X nx) n px) pos.line Z.F.au=pure false)(N:jl Z.F i X)(h:S Z.F VO (eval e Z.F.au) x):
  T Z (exec (.Assign [.Attribute (.Name X nx) n px] e pos) Z.F.au) (λδ r=>(x (bU δ) r).fZ λd r=>dO ((dJ δ i).bind Ct) λv=>if(lt&&d.dN.isSome)=true then .a (gI δ i<|jD v.1 v.2.1 d) r else .e):=λO vs δ r s K V q=>by
 refine aK hn ?_
 refine ml (aq (h.Aw V.g (eY q) λw d s1 r1 D1 G1 T1 q=>?_) (λU U z=>z) λU U p=>eK.px V.g p) hsw
 refine aU λG9 k9=>?_
 obtain⟨p,ep,q⟩:=ft q
 obtain⟨L,D,nL⟩:=D1
 have gr:=eK.aex (i:=i) V T1 nL D.jx.2
 obtain @⟨d0,e1,e2⟩:=bind_some ep
 obtain⟨v,hv,Dv,Pv⟩:=V.ro e1
 refine k9 ?_
 have A:=(Dv.aW (V.g.g9 T1) gr.2 λa m o e=>T1.kp.pq a o e (fE V m).1 (fE V m).2.1).Em e2
 by_cases hb:(lt&&d.dN.isSome)=true
 ·rw[aJ hb]at q
  have mem: ∀j b,b∈iK O i (O i++L) j->(∃j,b∈O j)\/b∈L:=λj b m=>by
   rcases e9 m with⟨_,m⟩|⟨_,m⟩
   ·exact(cY.mp m).imp (λm=>⟨i,m⟩) id
   ·exact .inl ⟨j,m⟩
  refine N.eval gr.1 hv<|aq (Ua (N:=K.N) O1 gr.1 hv Pv A (λb m=>⟨by rw[jN];exact bO _ m,λm'=>?_⟩) (λb m=>by rw[jN];exact cU _ m) (D.aW (H':=HO Z<|iK O i<|O i++L) (.cm _ _) (.f9 λb q=>q.elim (λq=>.inl<|.inl q) λ⟨j,m⟩=>(mem j b m).imp (λm=>.inr m) id) λU U U e=>e) ?_) (λU U p=>oj.hF (.of T1) (λj b m=>(mem j b m).imp id<|nL b) p) λU U z=>z
  ·obtain⟨o,e⟩:=V.g.iu b<|.inr ⟨i,m⟩
   exact nn<|(nL b m').symm.trans e
  ·unfold gI
   rw[wy]
   exact q
 ·rw[aN hb]at q
  exact q.elim
end
section
variable{Z:Zs}{O O1:av->aa az}{vs:aa (ag ak)}{δ uf:Sl}{r r0 r1 r2:Rw}{s s0 s1 s2:af}{K:SK}{E:aa av->Rw->Prop}{i:av}{x y z:Dl->Rw->bc DV}{RE:ak->af->Prop}
theorem T.aax(N:jl Z.F i X):T Z (exec (.Return (some<|.Name X px) pos) Z.F.au) (λδ r=>dO (dJ δ i) λd=>.g d r):=λO vs δ r s K V q=>by
 refine aU λG9 k9=>?_
 obtain⟨d,e,q⟩:=ft q
 obtain⟨v,hv,D⟩:=V.ro e
 refine k9 ?_
 refine jq<|N.eval V hv<|.nF (L:=O i) (D.aW (.cm _ _) (.f9 λb q=>q.imp id λm=>⟨i,m⟩) λU U U e=>e) (λb m=>.inl ⟨i,m⟩) (.cm V.g.wd) q
theorem T.Wb(h:S Z.F VW (eval e Z.F.au) x):T Z (exec (.Return (some e) pos) Z.F.au) (λδ r=>(x (b4 δ) r).fZ λd r=>.g d r):=λO vs δ r s K V q=>
 jq (V.Pg h (eY q) λb d s1 r1 D T q=>by
  refine bN D λL h9=>cK h9 λD n=>?_
  exact .nF D (λb m=>.inr (n b m)) (.of T) q)
end
section
variable{F:Fx}{P:Pt}{r r0 r1 r2:Rw}{s s0 s1 s2:af}{E:aa av->Rw->Prop}{RE:ak->af->Prop}
theorem Kp.HN{X:az->Prop}(k:Kp X fr h0 h1)(n:h0.get? a=none)(kk: ∀b o,b≠a->h1.get? b=some o->h'.get? b=some o):Kp X fr h0 h':=by
 have n0: ∀b o,h0.get? b=some o->b≠a:=λb o e z=>nn<|n.symm.trans<|z▸e
 refine⟨λb o e=>?_,λb o e x f=>kk b o (n0 b o e)<|k.pq b o e x f,λb o e x f=>?_⟩
 ·refine bN (k.cE b o e) λo' e'=>?_
  exact⟨o',kk b o' (n0 b o e) e'⟩
 ·refine bN (k.NB b o e x f) λsl e'=>?_
  exact⟨sl,kk b _ (n0 b o e) e'⟩
theorem HP.aay{Q:DV->Rw->Prop}{R:Ta->af->Prop}(G0:Gd F P r0 s0)(V:HP F P s0 D C d r s)(gv:F.Λ[i]?=some (some y))(hk:F.au.kindOf y=some .local\/F.au.kindOf y=some .cell)(q:Q d r)
  (k: ∀v d s2 r2,VO F.c P.H s0 s2 v d->m4 F P i v r2 s0 s2->Q d r2->R .next s2):
  wpAny F.M F.A (mQ (.Name y py) F.au<|.ref D) (λU s''=> ∃m,s''.heap.Ns C m/\ ∀h',bj C s''.heap h'->R .next {s'' with heap:=h'}) RE s:=by
 refine aU λG9 k9=>?_
 refine bN V.ns λm hn=>?_
 refine bN (Ns.nf hn) λo h9=>cK h9 λe nf=>?_
 refine k9 ?_
 have G:=G0.TN V.T V.nC ⟨o,e⟩
 have fc:=G0.fr V.nC
 refine qV<|kh G.ev gv hk λh2 ND a K U EV=>?_
 have la:=G0.ic a K.ic
 have pq: ∀b,s0.heap.get? b=none->b≠a:=λb n z=>by
  refine bN (G0.iu a la.1) λo1 e1=>?_
  exact nn<|n.symm.trans<|z▸e1
 have nC:=pq C V.nC
 refine⟨m,Ns.mG hn K.sb nC,λh' sb=>?_⟩
 have A1:=m4.of (tk:=ND) G V.T K EV
 have kk: ∀b o,b≠C->h2.get? b=some o->h'.get? b=some o:=λb o n e=>(sb.2 b n).trans e
 have lC: ¬yi F.au C:=λl=>by
  refine bN (G0.iu C (G0.ic C l).1) λo1 e1=>?_
  exact nn<|V.nC.symm.trans e1
 have hC: ∀b,P.H b->b≠C:=λb q z=>by
  refine bN (G0.iu b q) λo1 e1=>?_
  exact nn<|V.nC.symm.trans<|z▸e1
 have g:=A1.g.drop (H2:=P.H) (h':=h') (.inr rfl) (G0.wd.gb V.nC) fc.1 ⟨o,(K.sb.2 C nC).trans e,mr nf⟩ fc.2 lC (λb o n e=>kk b o n e) (λb q=>⟨.inl q,hC b q⟩) λb q n=>q.resolve_right n
 refine k _ d _ r ⟨[D],?_,pu V.nD⟩ ⟨g,A1.kp.HN V.nC kk,df A1.same ⟨h',ND,rfl⟩⟩ q
 exact(V.nF.aW (h':=h2) (.mG K.sb<|.inl<|.inl la.1) (.cm _ _) λb mb o e=>(K.sb.2 b<|pq b<|pu V.nD b mb).trans e).aW (.mG sb<|.inr rfl) (.f9 λU=>.inl) λb mb o e=>kk b o (by cases bh.mp mb;exact V.DC) e
theorem Bw.O9(K:m3 F.au F.Λ scope i x)(hs: ∀x,cH iter F.au x=pure x)(hI:SI F iter z)
  (hT: ∀cl C,SB (F.fI scope cl C<|dg F.Λ scope.names i x) (lj ifs<|fb scope cl C F.au) t) (hE: ∀cl C,SE (F.fI scope cl C<|dg F.Λ scope.names i x) elt y)
  (hsw:dB (.ListComp elt [⟨.Name x px,iter,ifs,0⟩] scope pos) (some<|.Name y' py) spos.line F.au=pure true) (gv:F.Λ[j]?=some (some y')) (hk:F.au.kindOf y'=some .local\/F.au.kindOf y'=some .cell):
  Bw VO F j (exec (.Assign [.Name y' py] (.ListComp elt [⟨.Name x px,iter,ifs,0⟩] scope pos) spos) F.au) (λδ r=>(z δ r).bind λxs r=>(gn (JO t y δ i) xs [] r).bind λacc r=>.c (.c acc) r):=λP r s Q E R G q k=>by
 obtain⟨cl,cs⟩:=mH G.ev K.free K.md
 refine aK (Sp _ _ _ _ hsw) ?_
 refine ac<|gq<|ac ?_
 refine(?_:wpAny _ _ (do let _ ←afP (.ListComp elt [⟨.Name x px,iter,ifs,0⟩] scope pos) scope F.au _ (newList []) false (eval iter F.au) (some<|mQ (.Name y' py) F.au)) _ _ s)
 refine ac (aq (hV (use:=some (mQ (.Name y' py) F.au)) (E:=PX F s E) (Q:=λU s'=>R .next s') rfl hs cs.eq K.kind K.names
  (aq (hI P r s _ E G (bc.de q)) (λxv s₁ h₁=>aq h₁ (λit s₂ h₂=>?_) λU U e=>e) λU U e=>e)) (λU s' hq=>aD (aD hq)) λU U e=>e)
 obtain⟨D,T2,q2⟩:=h₂
 obtain⟨rfl,it,nR,hl⟩:=D
 exact Bu (RR:=GW F.M F.A (PX F s E) (some<|mQ (.Name y' py) F.au)<|λU s'=>R .next s') (Kf:=λacc r=>Q (.c acc) r) K cs (hT cl) (hE cl) G T2 nR it hl (rj<|bc.de q2) λD C s' r' acc V qk=>V.aay G gv hk qk k
theorem Bw.Pc(O:F.c.Ok)(K:m3 F.au F.Λ scope i x)(hs: ∀x,cH iter F.au x=pure x)(hI:SI F iter z)
  (hK: ∀cl C,SE (F.fI scope cl C<|dg F.Λ scope.names i x) kx kk) (hE: ∀cl C,SE (F.fI scope cl C<|dg F.Λ scope.names i x) vx y)
  (hsw:dB (.DictComp kx vx [⟨.Name x px,iter,[],0⟩] scope pos) (some<|.Name y' py) spos.line F.au=pure true) (gv:F.Λ[j]?=some (some y')) (hk:F.au.kindOf y'=some .local\/F.au.kindOf y'=some .cell):
  Bw VO F j (exec (.Assign [.Name y' py] (.DictComp kx vx [⟨.Name x px,iter,[],0⟩] scope pos) spos) F.au) (λδ r=>(z δ r).bind λxs r=>(gn (JQ kk y δ i) xs [] r).bind λacc r=>EI xs.length acc r):=λP r s Q E R G q k=>by
 obtain⟨cl,cs⟩:=mH G.ev K.free K.md
 refine aK (Sp _ _ _ _ hsw) ?_
 refine ac<|gq<|ac ?_
 refine(?_:wpAny _ _ (do let _ ←afP (.DictComp kx vx [⟨.Name x px,iter,[],0⟩] scope pos) scope F.au _ newDict false (eval iter F.au) (some<|mQ (.Name y' py) F.au)) _ _ s)
 refine ac (aq (hV (use:=some (mQ (.Name y' py) F.au)) (E:=PX F s E) (Q:=λU s'=>R .next s') rfl hs cs.eq K.kind K.names
  (aq (hI P r s _ E G (bc.de q)) (λxv s₁ h₁=>aq h₁ (λit s₂ h₂=>?_) λU U e=>e) λU U e=>e)) (λU s' hq=>aD (aD hq)) λU U e=>e)
 obtain⟨D,T2,q2⟩:=h₂
 obtain⟨rfl,it,nR,hl⟩:=D
 exact Bv O (RR:=GW F.M F.A (PX F s E) (some (mQ (.Name y' py) F.au)) (λU s'=>R .next s')) (Kf:=Q) K cs (hK cl) (hE cl) G T2 nR it hl (bc.Jw (rj (bc.de q2)) (λacc r q=>by
  obtain⟨e,q⟩:=bc.dU q
  refine(?_:(bc.fG _ _).wp _ _)
  rw[e];exact q) λU U z=>z) λD C s' r' d V qk=>V.aay G gv hk qk k
end
inductive aaz(F:Fx)(H:az->Prop)(L:aa az)(s:af)(v:ak)(Q:DV->Rw->Prop)(s':af):Prop
 |mk {L' d r} (D:nQ F.c (λb=>(H b/\b∉L)\/b∈L') s'.heap v d L') (n: ∀b∈L',b∈L\/s.heap.get? b=none) (wd:Wd F.c r s') (kp:Kp (λb=>Xe F.c b\/b∈L) (jU F.du) s.heap s'.heap) (same: ∃h tk,s'={s with heap:=h,toks:=tk}) (q:Q d r)
structure Pp(F:Fx)(H:az->Prop)(L:aa az):Prop where
 inH: ∀b∈L,H b
 cV: ∀b∈L,F.c.cV.get? b=none
 xe: ∀b∈L,¬Xe F.c b
 fr: ∀b∈L,b∉jU F.du
def JV(c:Cx)(r6:av)(fv:ak)(g:aa DV->Rw->bc DV):Prop:=
 ∀(F:Fx) H r s v d L vs xs Q E,F.c=c->r6<=F.lv->Cl F H r s->Pp F H L->nQ F.c H s.heap v d L->e8 F.c H s.heap vs xs->(g (d::xs) r).wp Q E->cW F.M F.A (.call fv ⟨v::vs,[]⟩) (λq s'=>q=.ok (.ret .none)/\aaz F H L s v Q s') s
section
variable{Z:Zs}{O O1:av->aa az}{vs:aa (ag ak)}{δ uf:Sl}{r r0 r1 r2:Rw}{s s0 s1 s2:af}{K:SK}{E:aa av->Rw->Prop}{i:av}{x y:Dl->Rw->bc DV}{z:Dl->Rw->bc (aa DV)}{RE:ak->af->Prop}
theorem eK.aeB(V:eK Z O vs δ r s):Pp Z.F (HO Z O) (O i):=⟨λb m=>.inr ⟨i,m⟩,λb m=>(V.pl i b m).cV,λb m=>(fE V m).1,λb m=>(fE V m).2.1⟩
inductive Ub(Z:Zs)(O:av->aa az)(vs:aa (ag ak))(δ:Sl)(i:av)(s:af)(Q:DV->Rw->Prop)(s':af):Prop
 |mk {L d r} (V:eK Z (iK O i L) vs (gI δ i d) r s') (T:oh Z O r s s') (u:fq O (iK O i L) s) (q:Q d r)
theorem eK.XE(V:eK Z O vs δ r s)(hv:vs[i]?=some (some v))(Pv:AB Z i v)(M:aaz Z.F (HO Z O) (O i) s v Q s2):Ub Z O vs δ i s Q s2:=by
 obtain @⟨L,d,r2,D,n,wd,kp,same,q⟩:=M
 have G:=V.g
 have fx:mF (HO Z O) s.heap s2.heap:=kp.g9 (λb q=>q.elim (λq=>.inl<|.inl<|.inr<|.inr q) λm=>.inr ⟨i,m⟩) λb m=>.inl<|.inl<|.inl m
 have nO: ∀j b,j≠i->b∈O j->b∉L:=λj b z m m'=>(n b m').elim (λm1=>z<|V.E4 j i b m m1) λe=>by
  refine bN (G.iu b<|.inr ⟨j,m⟩) λo e'=>?_
  exact nn<|e.symm.trans e'
 have up:qR (HO Z O) (HO Z<|iK O i L) s.heap:=λb q=>(tS q).elim .inl λm=>(n b m).imp (λm=>.inr ⟨i,m⟩) id
 have hd:qR (λb=>(HO Z O b/\b∉O i)\/b∈L) (HO Z<|iK O i L) s2.heap:=.f9 λb q=>by
  rcases q with q|⟨j,m⟩
  ·exact .inl ⟨.inl q,λm=>(V.pl i b m).gQ q⟩
  ·rcases e9 m with⟨_,m⟩|⟨z,m⟩
   ·exact .inr m
   ·exact .inl ⟨.inr ⟨j,m⟩,λm'=>z<|V.E4 j i b m m'⟩
 have gQ: ∀j,j≠i->TE (O j) s.heap s2.heap:=λj z b m o e=>kp.pq b o e (λq=>q.elim (fE V m).1 λm'=>z<|V.E4 j i b m m') (fE V m).2.1
 refine .mk (L:=L) (d:=d) (r:=r2) ⟨⟨wd,⟨G.er.frames,(G.er.kp kp λb m (q:Xe Z.F.c b\/b∈O i)=>q.elim (G.er.apart b m).2.2 λm'=>(fE V m').2.1 m).cE,λb m=>⟨.inl<|.inl<|.inl m,(G.er.apart b m).2⟩,G.er.depth,G.er.units,G.er.handled⟩,G.ev.keep λb l o e=>kp.any e λq=>q.elim (G.ic b l).2.2 λm=>(fE V m).2.2 l,λb l=>⟨.inl<|.inl<|.inr<|.inl l,(G.ic b l).2⟩,λb q=>.inl<|.inl<|.inr<|.inr q,λb q=>?_,λj d' e=>?_⟩,λj d' e=>?_,λj k b m m'=>?_,λj b m=>?_,λw d hw e=>Pv.cx V hv hw e⟩ ⟨wd,kp.yf λb q=>q.elim .inl λm=>.inr<|.inr ⟨i,m⟩,same⟩ (λj b m=>?_) q
 ·rcases tS q with q|m
  ·refine bN (G.iu b q) λo e=>?_
   exact kp.cE b o e
  ·exact D.cE b m
 ·rcases fS (gj.mp e) with⟨_,f⟩|⟨_,f⟩
  ·cases f
  ·refine bN (G.nB j d'<|gj.mpr f) λu h9=>cK h9 λe1 D1=>?_
   exact⟨u,e1,D1.aW fx up⟩
 ·rcases fS e with⟨rfl,f⟩|⟨z,e⟩
  ·cases f
   refine aK jN ?_
   exact⟨v,hv,D.aW (.cm _ _) hd λU U U e=>e⟩
  ·refine bN (V.nF j d' e) λu h9=>cK h9 λe1 D1=>?_
   refine aK (qf z) ?_
   exact⟨u,e1,D1.aW fx up<|gQ j z⟩
 ·rcases e9 m with⟨e,m1⟩|⟨z,m1⟩
  ·rcases e9 m' with⟨e',m2⟩|⟨z',m2⟩
   ·exact e.trans e'.symm
   ·exact absurd m1<|nO k b z' m2
  ·rcases e9 m' with⟨z',m2⟩|⟨z',m2⟩
   ·exact absurd m2<|nO j b z m1
   ·exact V.E4 j k b m1 m2
 ·rcases e9 m with⟨_,m1⟩|⟨_,m1⟩
  ·rcases n b m1 with m1|e
   ·exact V.pl i b m1
   ·exact⟨G.wd.gb e,λq=>by
     refine bN (G.iu b<|.inl q) λo e'=>?_
     exact nn (e.symm.trans e')⟩
  ·exact V.pl j b m1
 ·rcases e9 m with⟨_,m1⟩|⟨_,m1⟩
  ·exact(n b m1).imp (λm=>⟨i,m⟩) id
  ·exact .inl ⟨j,m1⟩
theorem T.aaA(O1:Z.F.c.Ok)(C:JV Z.F.c r6 (.ref<|Z.F.c.ue f) g)(hl:r6<=Z.F.lv)(hf:f<Z.F.c.Cw)(hx:n=Z.F.c.iG f)(hkd:gp Z.F.au n=true)(hst:args.all cD=true)
  (hsw:dB (.Call (.Name n np) (.Name X px::args) [] pos) none epos.line Z.F.au=pure false) (N:jl Z.F i X) (h:SL Z.F pos args z):
  T Z (exec (.Expr (.Call (.Name n np) (.Name X px::args) [] pos) epos) Z.F.au) (λδ r=>dO (dJ δ i) λd=>(z (bU δ) r).fZ λvs r=>(g (d::vs) r).fZ λd r=>.a (gI δ i d) r):=λO vs δ r s K V q=>by
 subst hx
 refine aU λG9 k9=>?_
 obtain⟨d,ed,q⟩:=ft q
 obtain⟨v,hv,_⟩:=V.ro ed
 refine k9 ?_
 refine GQ (cR<|jM O1 V.g hkd (O1.Tw f hf).1<|jk (by rw[bw,hst];rfl) (V.g.wd.K O1) (.inr<|.inr (O1.Tw f hf).2) ?_) (by unfold Ee;rw[V.g.ev.kind];rfl) hsw
 refine bP (tQ _ _)<|N.eval V hv<|aq (h.Aw V.g (eY q) λus xs s1 r1 cs G1 T1 q2=>?_) (λU U z=>z) λU U p=>eK.px V.g p
 have V1:=V.kG T1
 refine aU λG9 k9=>?_
 obtain⟨v',hv',D,Pv⟩:=V1.ro ed
 refine k9 ?_
 cases hv.symm.trans hv'
 refine⟨G1.wd.K O1,tc<|lQ (C Z.F (HO Z O) r1 s1 v d (O i) us xs _ _ rfl hl G1.cl V1.aeB D cs<|eY q2) λq s2 p=>?_⟩
 obtain⟨rfl,M⟩:=p
 refine aU λG9 k9=>?_
 obtain⟨V2,T2,u2,q⟩:=V1.XE hv Pv M
 refine k9 ?_
 exact⟨V2,(oh.of T1).seq (fq.cm _ _) T2,(fq.cm O s).trans (.of T1) u2,q⟩
theorem T.aeC(hi:Z.F.Λ[i]?=some (some X))(hj:Z.F.Λ[j]?=some (some Y))(kx:Z.F.au.kindOf X=some .local)(ky:Z.F.au.kindOf Y=some .local)(hij:i≠j)
  (hs:jf [.Tuple [.Name X px,.Name Y py] k tpos] e pos.line Z.F.au=pure false) (hw:q6 [.Tuple [.Name X px,.Name Y py] k tpos] e Z.F.au=pure (some [X,Y]))
  (h:SE Z.F e x):T Z (exec (.Assign [.Tuple [.Name X px,.Name Y py] k tpos] e pos) Z.F.au) (λδ r=>(d9 bA x δ r).fZ λp r=>j5 [i,j] (λδ r=>.a δ r) p.1 p.2 r):=λO vs δ r s K V q=>by
 refine acQ (V.qA qB h (eY q) λO' δ' u d s1 r1 su U D V1 T1 q=>?_) hs hw
 obtain⟨ds,hd,q⟩:=ft q
 obtain⟨e1,e2⟩:=bind_some hd
 have hl:=ah<|eh e2
 cases dT e2
 obtain⟨rfl,h1,h2,h3,h5,h6,_,cs⟩:=D.eN e1
 cases ds with
 |nil=>cases hl
 |cons d1 ds=>
  cases ds with
  |nil=>cases hl
  |cons d2 ds=>
   cases bY (dc<|dc hl)
   obtain⟨va,ws,rfl,ca,cs⟩:=cs.un
   obtain⟨vb,rfl,cb⟩:=cs.jx
   have go:=wpAny_unpackItems_tuple (prog:=Z.F.c.prog) (w:=Z.F.c.w) (A:=Z.F.A) (E:=xJ Z O s K.E) (s:=s1) (items:=[va,vb].toArray) (Q:=λitems s₂=>wpAny Z.F.M Z.F.A (K8 (([X,Y]:aa b9).reverse.map λn=>adF Z.F.au n) items.reverse) (λU=>mf Z O s K .next) (xJ Z O s K.E) s₂) V1.g.er.handled ⟨_,h1,h2,_,h3⟩ λh' hx=>?_
   ·exact go
   have T2:gc Z.F r1 s1 {s1 with heap:=h'}:=.gr V1.g.wd<|.Lw (tk:=s1.toks) s1<|jO hx
   have V2:=V1.kG T2
   have fx:mF (HO Z O') s1.heap h':=.all<|jO hx
   show wpAny _ _ (do jr _ (adF Z.F.au Y vb);(do jr _ (adF Z.F.au X va);pure ())) _ _ _
   refine ac<|dA<|GP<|kh V2.g.ev hj (.inl ky) λh3' tk a Kp U EV=>?_
   have k3:=eK.Ph (tk:=tk) hj V2 (cb.g9 fx) Kp EV
   refine ac<|dA<|GP<|kh k3.1.g.ev hi (.inl kx) λh4' tk' a' Kp' U EV'=>?_
   have k4:=eK.Ph (tk:=tk') hi k3.1 (((ca.g9 fx).g9<|.mG Kp.sb (V2.g.ic a Kp.ic).1).aW (.cm _ _)<|.f9 λb=>rk (i:=j)) Kp' EV'
   refine aD<|mf.hF (K:=K) (f:=.next) (.of<|T1.seq T2) su<|.mk k4.1 (k3.2.seq LX k4.2) (LX.trans k3.2 LX) ?_
   have e:Bd δ' [i,j] [d1,d2]=di (di δ' j d2) i d1:=by
    refine(?_:di (di δ' i d1) j d2=_)
    unfold di
    exact Ej _ _ hij
   exact e▸q
end
structure L6(c:Cx)(A:eX)(W:az->Prop)(z l1 l2:az)(xs ys items:aa DV)(St:cy->av->Prop)(Mid:cy->av->az->Prop):Prop where
 obj: ∀h k b,St h k->W b-> ∃o,h.get? b=some o/\ ¬eJ o
 keep: ∀h h' k,St h k->(∀b,W b-> ∀o,h.get? b=some o->h'.get? b=some o)->St h' k
 HH: ∀(H:az->Prop) k (s:af) d Q (RE:ak->af->Prop),(∀b,W b->H b)->d4 c H s.heap (.ref l1) xs->d4 c H s.heap (.ref l2) ys->St s.heap k->items[k]?=some d->
  (∀T vs ds h' tk,d=.g ds->Mid h' k T->h'.IsTuple T vs.toArray->e8 c H s.heap vs ds->(∀b o,¬W b->s.heap.get? b=some o->h'.get? b=some o)->Q (some<|.ref T) {s with heap:=h',toks:=tk})->
  wpAny (model c.prog c.w) A (pU<|.ref z) Q RE s
 go: ∀k T (s:af) elts x1 pos Q (RE:ak->af->Prop),Mid s.heap k T->(∀h',St h' (k+1)->bj z s.heap h'->Q () {s with heap:=h'})->wpAny (model c.prog c.w) A (Et (.Tuple elts x1 pos) (.ref z)<|.ref T) Q RE s
 zW:W z
 aeD: ∀h k T,Mid h k T-> ¬W T
 done: ∀(H:az->Prop) k (s:af) Q (RE:ak->af->Prop),A.handled=none->(∀b,W b->H b)->d4 c H s.heap (.ref l1) xs->d4 c H s.heap (.ref l2) ys->St s.heap k->k=items.length->(∀h',(∀b o,¬W b->s.heap.get? b=some o->h'.get? b=some o)->Q none {s with heap:=h'})->wpAny (model c.prog c.w) A (pU<|.ref z) Q RE s
structure ZIt(c:Cx)(l1 l2:az)(xs ys:aa DV)(St:cy->av->Prop)(H:az->Prop)(h:cy)(k:av):Prop where
 st:St h k
 L1:d4 c H h (.ref l1) xs
 L2:d4 c H h (.ref l2) ys
section
variable{Z:Zs}{O:av->aa az}{vs:aa (ag ak)}{δ:Sl}{r r1 r2:Rw}{s s0 s1 s2:af}{K:SK}{W:az->Prop}{z l1 l2:az}{xs ys items:aa DV}{St:cy->av->Prop}{Mid:cy->av->az->Prop}
theorem L6.ok(ZW:L6 c A W z l1 l2 xs ys items St Mid):C4 W (ZIt c l1 l2 xs ys St):=
 ⟨λH H' h h' k it f u kW=>⟨ZW.keep _ _ _ it.st kW,it.L1.aW f u,it.L2.aW f u⟩,λH h k b it w=>ZW.obj h k b it.st w⟩
set_option tactic.hygienic true in
theorem T.XF{R:tq->af->Prop}(ZW:L6 Z.F.c Z.F.A W z l1 l2 xs ys items St Mid)(hnm:iz Z.F is elts)(h1: ∀ex,T ⟨Z.F,ex,Z.sG⟩ (execs b Z.F.au) y)
  (A:rn Z W) (nW: ∀b,W b->s.heap.get? b=none) (exW: ∀b,W b-> ¬HO Z O b) (inv:Pm Z O s W (ZIt Z.F.c l1 l2 xs ys St) items (j5 is y) K items.length s1)
  (hnext: ∀s',oj Z O s K.N s'->R (.ok .next) s') (hret: ∀v s',HQ Z O s K v s'->R (.ok<|.ret v) s') (hexc: ∀e s',xJ Z O s K.E e s'->lP Z.F.M Z.F.A Z.F.au (λe s'=>R (.error e) s') e s'):
  cW Z.F.M Z.F.A (.forLoop (.Tuple elts x1 tpos) (.ref z) b [] Z.F.au) R s1:=by
 refine codeAny_forLoop_any (Pm Z O s W (ZIt Z.F.c l1 l2 xs ys St) items (j5 is y) K) (λn s3 hs=>?_) items.length inv
 obtain⟨hn,V,it,T1,u,q⟩:=hs
 rename_i O' vs δ r k
 have IO:=ZW.ok
 have wH: ∀b,W b->HO (Z.iY W) O' b:=λb w=>.inl<|.inr<|.inr w
 cases hd:items[k]? with
 |none=>
  have hl:=gF.mp hd
  rw[qY hl]at q
  exact ZW.done _ k s3 _ _ V.g.er.handled wH it.L1 it.L2 it.st (Ao (hn▸Ap ..) hl) λh' kk=>iW<|hnext _<|By IO A nW exW V it T1 u kk q
 |some d=>
  obtain⟨hlt,hd'⟩:=aY.mp hd
  rw[pd hlt,hd']at q
  refine ZW.HH _ k s3 d _ _ wH it.L1 it.L2 it.st hd λT1' us ds h' tk ed mid wB cs kk=>?_
  subst ed
  obtain⟨ds',ed,q⟩:=ft<|HS q
  have hl:=ah<|eh ed
  cases dT ed
  refine ZW.go k T1' _ elts x1 tpos _ _ mid λh2 st2 sb=>?_
  have kk2: ∀b o,¬W b->s3.heap.get? b=some o->h2.get? b=some o:=λb o n e=>(sb.2 b λz=>n<|z▸ZW.zW).trans<|kk b o n e
  have fx:mF (HO (Z.iY W) O') s3.heap h2:=λb o e n=>kk2 b o (λw=>n<|wH b w) e
  have V2:=Bz (tk:=tk) IO A V (IO.nc it) (λb w=>by
   obtain⟨o,e,_⟩:=ZW.obj _ _ b st2 w
   exact⟨o,e⟩) kk2
  have aeF:h2.IsTuple T1' us.toArray:=by
   obtain⟨o,e,r⟩:=wB
   exact⟨o,(sb.2 T1' λq=>ZW.aeD _ k T1' mid<|q▸ZW.zW).trans e,r⟩
  refine WH V2.g.er.handled aeF (by rw[hnm.rm.1,←hl,bT,cs.cn]) hnm.rm.2 λh3 hx=>?_
  have T3:gc Z.F r {s3 with heap:=h2,toks:=tk} {s3 with heap:=h3,toks:=tk}:=.gr V2.g.wd<|.Lw (tk:=tk) {s3 with heap:=h2,toks:=tk} (jO hx)
  have V3:=V2.kG T3
  have it3:ZIt Z.F.c l1 l2 xs ys St (HO (Z.iY W) O') h3 (k+1):=IO.aW _ _ _ _ _ ⟨st2,it.L1.aW fx<|.cm _ _,it.L2.aW fx<|.cm _ _⟩ (.all<|jO hx) (.cm _ _) λb U=>jO hx b
  have T13:oh Z O r s _:=(oh.HN (Z:=Z) (W:=W) (tk:=tk) V2.g.wd T1 nW kk2).seq u<|.of T3
  refine aq (uD (Z:=Z.iY W) (N:=λδ r=>(y δ r).wp {K with N:=λδ r=>(dH (j5 is y) (items.drop<|k+1) δ r).wp K}) hnm V3 ((cs.g9 fx).g9<|.all<|jO hx) hl q) (λU s4 p=>?_) λU U z=>z
  obtain⟨V4,T4,u4,q4⟩:=p
  exact BA IO A h1 hn hlt V4 (IO.sts A V3 T4 u4 it3) (T13.seq u<|r9 (W:=W) T4) (u.trans T13 u4) q4 (λs' m hm h=>⟨m,hm,h⟩) hret hexc
end
noncomputable def SN(h:cy)(z TI TO:az)(f0:ak):Prop:=h.get? z=some {cls:=.type "zip",dict:=none,data:=.fields #[f0,.bool false,.bool false,.ref TI,.ref TO],slots:= #[]}
noncomputable def E8(h:cy)(T:az)(a b d:ak):Prop:=h.get? T=some {cls:=.type "tuple",data:=.seq #[a,b,d]}
theorem yJ(a b d:ak):checkTypeCall "zip" ⟨[a,b,d],[]⟩=pure ():=by kernel_rfl
theorem AC(a b d:ak):checkBuiltinCall "zip.__new__" ⟨[.type "zip",a,b,d],[]⟩=pure ():=by kernel_rfl
theorem tU(a b d e:ak):argsOk "object.__init__" ⟨[a,b,d,e],[]⟩:=by
 unfold argsOk;rw[signature?_of (id:="object.__init__") (n:=['_','_','t','i','n','i','_','_']) (o:=['t','c','e','j','b','o']) (by kernel_rfl) F.owner_object];kernel_rfl
noncomputable abbrev Zc(h:cy)(l1:az):Heap:=h.push {cls:=.type "list_iterator",data:=.fields #[.ref l1,.int 0 0]}
noncomputable abbrev Zd(h:cy)(l1 l2:az):Heap:=(Zc h l1).push {cls:=.type "list_iterator",data:=.fields #[.ref l2,.int 0 0]}
noncomputable abbrev z3c(h:cy)(l1 l2:az)(n:aL):Heap:=(Zd h l1 l2).push {cls:=.type "range_iterator",data:=.fields #[dZ 0,dZ<|jg 0 n 1,dZ 1]}
noncomputable abbrev z3d(h:cy)(l1 l2:az)(n:aL):Heap:=(z3c h l1 l2 n).push {cls:=.type "tuple",data:=.seq #[.ref h.objs.size,.ref (Zc h l1).objs.size,.ref (Zd h l1 l2).objs.size]}
noncomputable abbrev z3e(h:cy)(l1 l2:az)(n:aL):Heap:=(z3d h l1 l2 n).push {cls:=.type "tuple",data:=.seq #[.none,.none,.none]}
noncomputable abbrev XG(h:cy)(l1 l2:az)(n:aL):Heap:=(z3e h l1 l2 n).push {cls:=.type "zip",data:=.fields #[.none,.bool false,.bool false,.ref (z3c h l1 l2 n).objs.size,.ref (z3d h l1 l2 n).objs.size]}
set_option maxHeartbeats 2000000 in
theorem E9(l1 l2 r:az)(xs ys:pZ ak)(n:aL)(t u v:Tok)(hs:Ac 0 n 1=true):
  Meets (GG.«zip.__new__» ⟨[.type "zip",.ref l1,.ref l2,.ref r],[]⟩) (λU R s=>s.heap.IsList l1 xs/\s.heap.IsList l2 ys/\IsRange s.heap r 0 n 1 t u v/\
   R (.ok (.ret (.ref (z3e s.heap l1 l2 n).objs.size))) {s with heap:=XG s.heap l1 l2 n}):=
 .of_wp λprog w A R s h=>by
  obtain⟨hp,g,d,tk,os⟩:=s;obtain⟨hl1,hl2,hr,h⟩:=h
  have hsub:=sub_zip
  have hL1:Zv (WK ⟨hp,g,d,tk,os⟩) l1 xs:=hl1
  have hL2:Zv (WK ⟨hp.push {cls:=.type "list_iterator",data:=.fields #[.ref l1,.int 0 0]},g,d,tk,os⟩) l2 ys:=adL hl2 _
  wp_walk using Ai hL1,Ai hL2,xX (aA _<|aA _ hr) hs
  exact⟨_,rfl,h⟩
section
variable{prog:pg}{w:World}{A:eX}{E:ak->af->Prop}{s:af}
theorem HT{Q:ak->af->Prop}(hs:Ac 0 n 1=true)(hl1:s.heap.IsList l1 xs)(hl2:s.heap.IsList l2 ys)(hr:IsRange s.heap r 0 n 1 t u v)
  (h: ∀h',SN h' (s.heap.objs.size+5) (s.heap.objs.size+3) (s.heap.objs.size+4) .none->E8 h' (s.heap.objs.size+3) (.ref s.heap.objs.size) (.ref (s.heap.objs.size+1)) (.ref (s.heap.objs.size+2))->
   E8 h' (s.heap.objs.size+4) .none .none .none->h'.IsListIter s.heap.objs.size l1 0->h'.IsListIter (s.heap.objs.size+1) l2 0->jC h' (s.heap.objs.size+2) 0 (jg 0 n 1) 1->
   (∀c o,s.heap.get? c=some o->h'.get? c=some o)->Q (.ref (s.heap.objs.size+5)) {s with heap:=h'}):
  wpAny (model prog w) A (call (.type "zip") [.ref l1,.ref l2,.ref r]) Q E s:=by
 refine callType_new F.called_zip (by decide) (yJ _ _ _) (AC _ _ _) (λobj=>tU obj _ _ _) F.entry_zip_new
  (E9 l1 l2 r xs ys n t u v hs) ⟨hl1,hl2,hr,?_⟩
 have z1:(Zc s.heap l1).objs.size=s.heap.objs.size+1:=gl ..
 have z2:(Zd s.heap l1 l2).objs.size=s.heap.objs.size+2:=by rw[gl,z1]
 have z3:(z3c s.heap l1 l2 n).objs.size=s.heap.objs.size+3:=by rw[gl,z2]
 have z4:(z3d s.heap l1 l2 n).objs.size=s.heap.objs.size+4:=by rw[gl,z3]
 have z5:(z3e s.heap l1 l2 n).objs.size=s.heap.objs.size+5:=by rw[gl,z4]
 have TN: ∀c o,(z3e s.heap l1 l2 n).get? c=some o->(XG s.heap l1 l2 n).get? c=some o:=λc o x=>aA _ x
 have up2: ∀c o,(z3d s.heap l1 l2 n).get? c=some o->(XG s.heap l1 l2 n).get? c=some o:=λc o x=>TN c o<|aA _ x
 have up3: ∀c o,(z3c s.heap l1 l2 n).get? c=some o->(XG s.heap l1 l2 n).get? c=some o:=λc o x=>up2 c o<|aA _ x
 have up4: ∀c o,(Zd s.heap l1 l2).get? c=some o->(XG s.heap l1 l2 n).get? c=some o:=λc o x=>up3 c o<|aA _ x
 have up5: ∀c o,(Zc s.heap l1).get? c=some o->(XG s.heap l1 l2 n).get? c=some o:=λc o x=>up4 c o<|aA _ x
 have g6:(XG s.heap l1 l2 n).get? (z3e s.heap l1 l2 n).objs.size=some _:=aR _ rfl
 have g5:=TN _ _<|aR (z3d s.heap l1 l2 n) (o:={cls:=.type "tuple",data:=.seq #[.none,.none,.none]}) rfl
 have g4:=up2 _ _<|aR (z3c s.heap l1 l2 n) (o:={cls:=.type "tuple",data:=.seq #[.ref s.heap.objs.size,.ref (Zc s.heap l1).objs.size,.ref (Zd s.heap l1 l2).objs.size]}) rfl
 have g3:=up3 _ _<|aR (Zd s.heap l1 l2) (o:={cls:=.type "range_iterator",data:=.fields #[dZ 0,dZ<|jg 0 n 1,dZ 1]}) rfl
 have g2:=up4 _ _<|aR (Zc s.heap l1) (o:={cls:=.type "list_iterator",data:=.fields #[.ref l2,.int 0 0]}) rfl
 refine(?_:_/\_)
 rw[z3,z4,z5]at g6
 rw[z4]at g5
 rw[z1,z2,z3]at g4
 rw[z2]at g3
 rw[z1]at g2
 refine aK z5 ?_
 exact⟨⟨_,g6,rfl⟩,h _ g6 g4 g5 ⟨_,(up5 _ _<|aR s.heap (o:={cls:=.type "list_iterator",data:=.fields #[.ref l1,.int 0 0]}) rfl),rfl,rfl⟩ ⟨_,g2,rfl,rfl⟩ g3 λc o x=>up5 c o<|aA _ x⟩
theorem tV{T}{a b d x}{k}{Q:Ah->af->Prop}(hT:E8 s.heap T a b d)
  (h: ∀h',h'.get? T=some {cls:=.type "tuple",data:=.seq ((#[a,b,d]:pZ ak).setIfInBounds k x)}->bj T s.heap h'->Q () {s with heap:=h'}):
  wpAny (model prog w) A (updateSeq T<|λy=>y.setIfInBounds k x) Q E s:=by
 refine wpAny_updateSeq hT rfl<|h _ ?_<|fC ..
 refine aK (cI _ hT rfl) ?_
 simp[gS]
theorem C6{it}{x left aW}{Q:ak->af->Prop}(hit:jC s.heap it x left aW)(hleft:0<left)
  (hQ: ∀h',jC h' it (x+aW) (left - 1) aW->bj it s.heap h'->Q (.int x s.toks) {s with heap:=h',toks:=s.toks+1}):
  wpAny (model prog w) A (d7<|.ref it) Q E s:=by
 have hT:s.TypeIs (.ref it) "range_iterator":=⟨_,hit,rfl⟩
 unfold d7
 refine ac (lh (name:=nK "__next__") hT Eu
  (mP Eu hT F.entry_range_iterator_next (F.args_range_iterator_next_1 _) (agR it x left aW (by lia)) ⟨hit,?_⟩))
 exact aD<|hQ _ (cI _ (cI _ hit rfl) rfl)<|(fC ..).trans<|fC ..
theorem HU{α β:Type}{n}{b}{f}{Q:β->af->Prop}(h:Q b s):wpAny (model prog w) A (forIn (([]:aa α).zipIdx n) b f) Q E s:=aD h
theorem vQ{α β:Type}{x:α}{xs:aa α}{n:av}{b:β}{f:α×av->β->xt (Ny β)}{Q:β->af->Prop}(h:wpAny (model prog w) A (f (x,n) b) (λr s'=>r=.yield b/\wpAny (model prog w) A (forIn (xs.zipIdx<|n+1) b f) Q E s') E s):wpAny (model prog w) A (forIn ((x::xs).zipIdx n) b f) Q E s:=by
 rw[Su,iw]
 refine ac<|aq h (λr s' p=>?_) λU U z=>z
 obtain⟨rfl,p⟩:=p
 exact p
structure Pq(z TI TO i1 i2 i3 l1 l2:az):Prop where
 d:[z,TI,TO,i1,i2,i3].Pairwise (· ≠ ·)
 l1: ∀x∈[z,TI,TO,i1,i2,i3],l1≠x
 l2: ∀x∈[z,TI,TO,i1,i2,i3],l2≠x
theorem pw{l:aa az}(h:l.Pairwise (· ≠ ·)){i j:av}{a b:az}(hi:l[i]?=some a)(hj:l[j]?=some b)(hij:i<j):a≠b:=by
 obtain⟨x,rfl⟩:=aY.mp hi
 obtain⟨y,rfl⟩:=aY.mp hj
 exact pb.mp h i j x y hij
theorem L7{z TI TO i1 i2 i3 l1 l2:az}{k1 k2:av}{p left:aL}{xs ys:pZ ak}{x y a b d:ak}{Q:ak->af->Prop}(D:Pq z TI TO i1 i2 i3 l1 l2)
  (hz:SN s.heap z TI TO .none) (hTI:E8 s.heap TI (.ref i1) (.ref i2) (.ref i3)) (hTO:E8 s.heap TO a b d)
  (h1:s.heap.IsListIter i1 l1 k1) (h2:s.heap.IsListIter i2 l2 k2) (h3:jC s.heap i3 p left 1) (hl1:s.heap.IsList l1 xs) (hl2:s.heap.IsList l2 ys) (hx:xs[k1]?=some x) (hy:ys[k2]?=some y) (hp:0<left)
  (hQ: ∀h' tk t,SN h' z TI TO (dZ s.heap.objs.size)->(∃a b d,E8 h' TO a b d)->h'.IsListIter i1 l1 (k1+1)->h'.IsListIter i2 l2 (k2+1)->jC h' i3 (p+1) (left - 1) 1->E8 h' s.heap.objs.size x y (.int p t)->
   (∀c o,c∉[z,TO,i1,i2,i3]->s.heap.get? c=some o->h'.get? c=some o)->Q (.ref s.heap.objs.size) {s with heap:=h',toks:=tk}):
  wpAny (model prog w) A (GG.«zip.__next__» ⟨[.ref z],[]⟩) (λfin s'=> ∃v,fin=.done (.ret v)/\Q v s') E s:=by
 have P:=λi j a b=>@pw [z,TI,TO,i1,i2,i3] D.d i j a b
 have zTO:=P 0 2 _ _ rfl rfl (by decide)
 have z1:=P 0 3 _ _ rfl rfl (by decide)
 have z2:=P 0 4 _ _ rfl rfl (by decide)
 have z3:=P 0 5 _ _ rfl rfl (by decide)
 have TO1:=P 2 3 _ _ rfl rfl (by decide)
 have TO2:=P 2 4 _ _ rfl rfl (by decide)
 have TO3:=P 2 5 _ _ rfl rfl (by decide)
 have d12:=P 3 4 _ _ rfl rfl (by decide)
 have d13:=P 3 5 _ _ rfl rfl (by decide)
 have d23:=P 4 5 _ _ rfl rfl (by decide)
 have L2:=λi a (h:[z,TI,TO,i1,i2,i3][i]?=some a)=>D.l2 a<|bG h
 have l1z:=(λi a (h:[z,TI,TO,i1,i2,i3][i]?=some a)=>D.l1 a<|bG h) 0 _ rfl
 have l2z:=L2 0 _ rfl
 have l21:=L2 3 _ rfl
 refine(?_:wpAny _ _ (field (.ref z) 2>>=_) _ _ _)
 refine ac<|gt hz rfl (x:=.bool false) rfl ?_
 refine(?_:wpAny _ _ (field (.ref z) 3>>=_) _ _ _)
 refine ac<|gt hz rfl (x:=.ref TI) rfl ?_
 refine ac<|lM hTI rfl ?_
 refine(?_:wpAny _ _ (fp (.ref z)>>=_) _ _ _)
 refine ac ?_
 unfold fp
 refine ac<|gt hz rfl (x:=.none) rfl<|aD ?_
 refine aK (aJ rfl) ?_
 refine ac<|GN ?_
 refine ac<|gt hz rfl (x:=.ref TO) rfl ?_
 refine ac<|kQ hz (by simp) λh₁ Pr s₁=>?_
 refine ac<|vQ<|ac<|q5 ?_
 refine(?_:wpAny _ _ (d7 (.ref i1)>>=_) _ _ _)
 refine ac<|NJ (h1.extBut s₁.extBut z1.symm) (hl1.extBut s₁.extBut l1z) hx λh₂ aaF s₂=>aD ?_
 have Ps:E8 h₂ TO a b d:=(s₂.2 _ TO1).trans<|(s₁.2 _ zTO.symm).trans hTO
 refine ac<|lM Ps rfl ?_
 refine ac<|tV Ps λh₃ XH s₃=>?_
 refine ac<|S1<|aD ⟨rfl,vQ<|ac<|q5 ?_⟩
 refine(?_:wpAny _ _ (d7 (.ref i2)>>=_) _ _ _)
 refine ac (NJ (((h2.extBut s₁.extBut z2.symm).extBut s₂.extBut d12.symm).extBut s₃.extBut TO2.symm)
  (((hl2.extBut s₁.extBut l2z).extBut s₂.extBut l21).extBut s₃.extBut (L2 2 _ rfl)) hy λh₄ aaG s₄=>aD ?_)
 have Pu:E8 h₄ TO x b d:=(s₄.2 _ TO2).trans XH
 refine ac<|lM Pu rfl ?_
 refine ac<|tV Pu λh₅ XJ s₅=>?_
 refine ac<|S1<|aD ⟨rfl,vQ<|ac<|q5 ?_⟩
 refine(?_:wpAny _ _ (d7 (.ref i3)>>=_) _ _ _)
 refine ac<|C6 ((s₅.2 _ TO3.symm).trans<|(s₄.2 _ d23.symm).trans<|(s₃.2 _ TO3.symm).trans<|(s₂.2 _ d13.symm).trans<|(s₁.2 _ z3.symm).trans h3) hp λh₆ aaH s₆=>aD ?_
 have Pw:E8 h₆ TO x y d:=(s₆.2 _ TO3).trans XJ
 refine ac<|lM Pw rfl ?_
 refine ac<|tV Pw λuG C7 s₇=>?_
 refine ac<|S1<|aD ⟨rfl,HU ?_⟩
 replace C7:E8 uG TO x y (.int p s.toks):=C7
 refine ac<|lM C7 rfl ?_
 refine ac<|wpAny_newTuple ?_
 have hsz:uG.objs.size=s.heap.objs.size:=by rw[s₇.1,s₆.1,s₅.1,s₄.1,s₃.1,s₂.1,s₁.1]
 have Wc:SN uG z TI TO .ellipsis:=(s₇.2 _ zTO).trans<|(s₆.2 _ z3).trans<|(s₅.2 _ zTO).trans<|(s₄.2 _ z2).trans<|(s₃.2 _ zTO).trans<|(s₂.2 _ z1).trans Pr
 have aaI: ∀c o,c∉[z,TO,i1,i2,i3]->s.heap.get? c=some o->uG.get? c=some o:=λc o hc e=>by
  have N: ∀i a,[z,TO,i1,i2,i3][i]?=some a->c≠a:=λi a h q=>hc<|q▸bG h
  have nO:=N 1 _ rfl
  exact(s₇.2 _ nO).trans<|(s₆.2 _<|N 4 _ rfl).trans<|(s₅.2 _ nO).trans<|(s₄.2 _<|N 3 _ rfl).trans<|(s₃.2 _ nO).trans<|(s₂.2 _<|N 2 _ rfl).trans<|(s₁.2 _<|N 0 _ rfl).trans e
 have aaJ:uG.IsListIter i1 l1 (k1+1):=((((aaF.extBut s₃.extBut TO1.symm).extBut s₄.extBut d12).extBut s₅.extBut TO1.symm).extBut s₆.extBut d13).extBut s₇.extBut TO1.symm
 have aaK:uG.IsListIter i2 l2 (k2+1):=((aaG.extBut s₅.extBut TO2.symm).extBut s₆.extBut d23).extBut s₇.extBut TO2.symm
 have aaL:jC uG i3 (p+1) (left - 1) 1:=(s₇.2 _ TO3.symm).trans aaH
 have aaM:z<uG.objs.size:=d5 Wc
 refine(?_:wpAny _ _ (nU (.ref z) (.ref uG.objs.size)>>=_) _ _ _)
 refine ac ?_
 unfold nU
 have aaN:SN (uG.push {cls:=.type "tuple",data:=.seq #[x,y,.int p s.toks]}) z TI TO .ellipsis:=aA _ Wc
 refine ac<|kQ aaN (by simp) λahs aaO aaP=>?_
 refine kQ aaO (by simp) λhf hzf sf=>?_
 have up: ∀c o,c≠z->uG.get? c=some o->hf.get? c=some o:=λc o c1 e=>(sf.2 _ c1).trans<|(aaP.2 _ c1).trans<|aA _ e
 have hT:E8 hf uG.objs.size x y (.int p s.toks):=(sf.2 _<|q9 aaM).trans<|(aaP.2 _<|q9 aaM).trans<|aR _ rfl
 replace hzf:SN hf z TI TO (dZ uG.objs.size):=hzf
 rw[hsz]at hzf hT
 refine aD ⟨_,rfl,?_⟩
 refine(?_:Q (.ref uG.objs.size) _)
 refine aK hsz ?_
 exact hQ hf _ _ hzf ⟨_,_,_,up _ _ zTO.symm C7⟩ (aaJ.at λo e=>up _ o z1.symm e) (aaK.at λo e=>up _ o z2.symm e) (up _ _ z3.symm aaL) hT λc o hc e=>up c o (λq=>hc<|q▸.head _)<|aaI c o hc e
theorem Px{Q:Fin->af->Prop}(hh:A.handled=none)(n1:i1≠z)(n2:l1≠z)
  (hz:SN s.heap z TI TO .none) (hTI:E8 s.heap TI (.ref i1) (.ref i2) (.ref i3))
  (h1:s.heap.IsListIter i1 l1 k1) (hl1:s.heap.IsList l1 xs) (hend:xs[k1]?=none)
  (hE: ∀h' e,(∀c o,c≠z->c≠i1->s.heap.get? c=some o->h'.get? c=some o)->(∃o,h'.get? e=some o/\o.cls=.type "StopIteration")->E (.ref e) {s with heap:=h'}):
  wpAny (model prog w) A (GG.«zip.__next__» ⟨[.ref z],[]⟩) Q E s:=by
 refine(?_:wpAny _ _ (field (.ref z) 2>>=_) _ _ _)
 refine ac<|gt hz rfl (x:=.bool false) rfl ?_
 refine(?_:wpAny _ _ (field (.ref z) 3>>=_) _ _ _)
 refine ac<|gt hz rfl (x:=.ref TI) rfl ?_
 refine ac<|lM hTI rfl ?_
 refine(?_:wpAny _ _ (fp (.ref z)>>=_) _ _ _)
 refine ac ?_
 unfold fp
 refine ac<|gt hz rfl (x:=.none) rfl<|aD ?_
 refine aK (aJ rfl) ?_
 refine ac<|GN ?_
 refine ac<|gt hz rfl (x:=.ref TO) rfl ?_
 refine ac<|kQ hz (by simp) λh₁ Pr s₁=>?_
 refine ac ?_
 rw[Su,iw]
 refine ac<|ac<|q5 ?_
 refine(?_:wpAny _ _ (d7 (.ref i1)>>=_) _ _ _)
 refine ac<|wpAny_nextOf_list_end hh (h1.extBut s₁.extBut n1) (hl1.extBut s₁.extBut n2) hend λh₂ e s₂ he=>?_
 obtain⟨oe,hoe,hce⟩:=he
 have We:SN h₂ z TI TO .ellipsis:=s₂ _ _ n1.symm Pr
 have hez:e≠z:=λx=>by subst x;rw[show h₂.get? e=_ from We]at hoe;cases hoe;simp at hce
 refine kQ We (by simp) λh₃ U s₃=>hE h₃ e (λc o c1 c2 x=>(s₃.2 _ c1).trans<|s₂ _ _ c2<|(s₁.2 _ c1).trans x) ⟨oe,(s₃.2 _ hez).trans hoe,hce⟩
end
theorem d4.m5{c:Cx}{H:az->Prop}{h:cy}{l:az}{xs:aa DV}(L:d4 c H h (.ref l) xs): ¬H l/\ ∃us:aa ak,h.IsList l us.toArray/\e8 c H h us xs:=by
 obtain⟨e,ho,hH,hl,hs⟩:=L
 cases e
 exact⟨hH,_,IsList.of ho,hs⟩
structure Z2(z TI TO i1 i2 l1 l2:az)(h:cy)(k:av):Prop where
 hz:IsZip h z TI TO .none
 hI:IsPair h TI (.ref i1) (.ref i2)
 hO: ∃a b,IsPair h TO a b
 h1:h.IsListIter i1 l1 k
 h2:h.IsListIter i2 l2 k
structure Z2m(z TI TO i1 i2 l1 l2:az)(h:cy)(k:av)(T:az):Prop where
 hz:IsZip h z TI TO (dZ T)
 hI:IsPair h TI (.ref i1) (.ref i2)
 hO: ∃a b,IsPair h TO a b
 h1:h.IsListIter i1 l1 (k+1)
 h2:h.IsListIter i2 l2 (k+1)
 nT:T≠z/\T≠TI/\T≠TO/\T≠i1/\T≠i2
inductive W2(z TI TO i1 i2:az):az->Prop
 |z:W2 z TI TO i1 i2 z
 |TI:W2 z TI TO i1 i2 TI
 |TO:W2 z TI TO i1 i2 TO
 |i1:W2 z TI TO i1 i2 i1
 |i2:W2 z TI TO i1 i2 i2
structure D2(z TI TO i1 i2:az):Prop where
 a:z≠TI
 b:z≠TO
 c:z≠i1
 d:z≠i2
 e:TI≠TO
 f:TI≠i1
 g:TI≠i2
 h:TO≠i1
 i:TO≠i2
 j:i1≠i2
theorem D2.ap{z TI TO i1 i2 l1 l2:az}{H:az->Prop}(D:D2 z TI TO i1 i2)(wH: ∀b,W2 z TI TO i1 i2 b->H b)(n1: ¬H l1)(n2: ¬H l2):ZipApart z TI TO i1 i2 l1 l2:=by
 have f: ∀l,¬H l-> ∀b,W2 z TI TO i1 i2 b->l≠b:=λl n b w e=>n<|e▸wH b w
 exact⟨D.a.symm,D.b.symm,D.c.symm,D.d.symm,D.e,D.f,D.g,D.h,D.i,D.j,f l1 n1 _ .z,f l1 n1 _ .TO,f l1 n1 _ .i1,f l1 n1 _ .i2,f l2 n2 _ .z,f l2 n2 _ .TO,f l2 n2 _ .i1,f l2 n2 _ .i2⟩
theorem xM{h:cy}{a:az}{xs:pZ ak}(e:h.get? a=some {cls:=.type "tuple",data:=.seq xs}): ∃o,h.get? a=some o/\ ¬eJ o:=⟨_,e,yh rfl⟩
theorem pA{h:cy}{i l:az}{k}(x:h.IsListIter i l k): ∃o,h.get? i=some o/\ ¬eJ o:=by
 refine aU λG9 k9=>?_
 refine bN x λo h9=>n7 h9 λe U d=>?_
 refine k9 ?_
 exact⟨o,e,sM d (by simp)⟩
theorem m6{h:cy}{b:az}(x: ∃o,h.get? b=some o):h.objs.size≠b:=by
 refine bN x λo e=>?_
 exact q9<|d5 e
set_option tactic.hygienic true in
theorem BB{α β:Type}{xs:aa α}{ys:aa β}{k:av}{d:DV}{f:α×β->DV}(e:((xs.zip ys).map f)[k]?=some d): ∃x y,xs[k]?=some x/\ys[k]?=some y/\d=f (x,y):=by
 obtain⟨e1,e2⟩:=c9<|(bl ..).symm.trans e
 rename_i p
 obtain⟨x,y⟩:=p
 obtain⟨a,b⟩:=pc.mp e1
 exact⟨x,y,a,b,(am e2).symm⟩
section
variable{c:Cx}{A:eX}{z TI TO i1 i2 l1 l2:az}{xs ys:aa DV}
theorem aaQ(D:D2 z TI TO i1 i2)(hl:xs.length<=ys.length):L6 c A (W2 z TI TO i1 i2) z l1 l2 xs ys ((xs.zip ys).map λp=>.g [p.1,p.2]) (Z2 z TI TO i1 i2 l1 l2) (Z2m z TI TO i1 i2 l1 l2):=by
 refine⟨λh k b st w=>?_,λh h' k st kp=>?_,λH k s d Q RE wH L1 L2 st hx hQ=>?_,λk T s elts x1 pos Q RE m hQ=>?_,.z,λh k T m w=>?_,λH k s Q RE hh wH L1 L2 st hk hQ=>?_⟩
 ·obtain⟨hz,hI,⟨a,b',hO⟩,h1,h2⟩:=st
  cases w with
  |z=>exact⟨_,hz,sM rfl (by simp)⟩
  |TI=>exact xM hI
  |TO=>exact xM hO
  |i1=>exact pA h1
  |i2=>exact pA h2
 ·obtain⟨hz,hI,⟨a,b',hO⟩,h1,h2⟩:=st
  exact⟨kp _ .z _ hz,kp _ .TI _ hI,⟨a,b',kp _ .TO _ hO⟩,h1.at λo e=>kp _ .i1 o e,h2.at λo e=>kp _ .i2 o e⟩
 ·obtain⟨hz,hI,⟨a,b',hO⟩,h1,h2⟩:=st
  refine jK (BB hx) λx y h9=>n7 h9 λY9 hy1 z94=>?_
  subst z94
  refine aU λG9 k9=>?_
  obtain⟨n1,vs1,e1,XK⟩:=L1.m5
  obtain⟨n2,vs2,e2,cs2⟩:=L2.m5
  refine bN (XK.vg Y9) λv1 h9=>cK h9 λg1 c1=>?_
  refine bN (cs2.vg hy1) λv2 h9=>cK h9 λg2 c2=>?_
  refine k9 ?_
  refine wpAny_pyNext_zip_item (D.ap wH n1 n2) hz hI hO h1 h2 e1 e2 (by simpa using g1) (by simpa using g2) λh' a1 a2 a3 a4 a5 U a7=>hQ _ [v1,v2] _ h' s.toks rfl ⟨a1,a7 _ _ D.a.symm D.e D.f D.g hI,⟨_,_,a2⟩,a3,a4,m6 ⟨_,hz⟩,m6 ⟨_,hI⟩,m6 ⟨_,hO⟩,?_,?_⟩ ⟨_,a5,rfl,_,rfl⟩ (.cons c1<|.cons c2 .nil) λb o n e=>a7 b o (λq=>n<|q▸.z) (λq=>n<|q▸.TO) (λq=>n<|q▸.i1) (λq=>n<|q▸.i2) e
  ·obtain⟨o,e,_⟩:=h1;exact m6 ⟨o,e⟩
  ·obtain⟨o,e,_⟩:=h2;exact m6 ⟨o,e⟩
 ·obtain⟨hz,hI,⟨a,b',hO⟩,h1,h2,_⟩:=m
  exact Jc hz λh' hz' sb=>hQ h' ⟨hz',(sb.2 _ D.a.symm).trans hI,⟨a,b',(sb.2 _ D.b.symm).trans hO⟩,h1.extBut sb.extBut D.c.symm,h2.extBut sb.extBut D.d.symm⟩ sb
 ·refine Y4 m.nT λn1 n2 n3 n4 n5=>?_
  cases w with
  |z=>exact n1 rfl
  |TI=>exact n2 rfl
  |TO=>exact n3 rfl
  |i1=>exact n4 rfl
  |i2=>exact n5 rfl
 ·obtain⟨hz,hI,⟨a,b',hO⟩,h1,h2⟩:=st
  refine aU λG9 k9=>?_
  obtain⟨n1,vs1,e1,XK⟩:=L1.m5
  obtain⟨n2,vs2,e2,cs2⟩:=L2.m5
  refine k9 ?_
  refine wpAny_pyNext_zip_end hh (D.ap wH n1 n2) hz hI hO h1 h2 e1 e2 (.inl ?_) λh' kk=>hQ h' λb o n e=>kk b o (λq=>n<|q▸.z) (λq=>n<|q▸.TO) (λq=>n<|q▸.i1) (λq=>n<|q▸.i2) e
  refine aK hk ?_
  rw[aw,mC]
  refine aK (rX hl)<|aK XK.cn.symm ?_
  simp
end
structure Z3(z TI TO i1 i2 i3 l1 l2:az)(n:aL)(h:cy)(k:av):Prop where
 hz:SN h z TI TO .none
 hI:E8 h TI (.ref i1) (.ref i2) (.ref i3)
 hO: ∃a b d,E8 h TO a b d
 h1:h.IsListIter i1 l1 k
 h2:h.IsListIter i2 l2 k
 h3:jC h i3 k (n - k) 1
structure Z3m(z TI TO i1 i2 i3 l1 l2:az)(n:aL)(h:cy)(k:av)(T:az):Prop where
 hz:SN h z TI TO (dZ T)
 hI:E8 h TI (.ref i1) (.ref i2) (.ref i3)
 hO: ∃a b d,E8 h TO a b d
 h1:h.IsListIter i1 l1 (k+1)
 h2:h.IsListIter i2 l2 (k+1)
 h3:jC h i3 ((k:aL)+1) (n - k - 1) 1
 nT:T∉[z,TI,TO,i1,i2,i3]
section
variable{c:Cx}{A:eX}{z TI TO i1 i2 i3 l1 l2:az}{xs ys:aa DV}{n:aL}
theorem L8{k:av}{d:DV}(e:(cG 0 n)[k]?=some d):(k:aL)<n/\d=.a k:=by
 obtain⟨e1,e2⟩:=c9<|(bl ..).symm.trans e
 obtain⟨h1,h2⟩:=aY.mp e1
 rw[nX]at h2
 rw[dR]at h1
 subst h2
 cases e2
 exact⟨bd (Ha.mp h1)<|f8<|gO n,by rw[ir]⟩
theorem aaR{P:az->Prop}{a b c d e f:az}(h1:P a)(h2:P b)(h3:P c)(h4:P d)(h5:P e)(h6:P f): ∀x∈[a,b,c,d,e,f],P x:=
 bX.mpr ⟨h1,bX.mpr ⟨h2,bX.mpr ⟨h3,bX.mpr ⟨h4,bX.mpr ⟨h5,bX.mpr ⟨h6,λU m=>nomatch m⟩⟩⟩⟩⟩⟩
theorem aaT(hd:[z,TI,TO,i1,i2,i3].Pairwise (· ≠ ·))(hl:xs.length<=ys.length)(hn:xs.length<=n.toNat):L6 c A (λx=>x∈[z,TI,TO,i1,i2,i3]) z l1 l2 xs ys ((xs.zip<|ys.zip<|cG 0 n).map λp=>.g [p.1,p.2.1,p.2.2]) (Z3 z TI TO i1 i2 i3 l1 l2 n) (Z3m z TI TO i1 i2 i3 l1 l2 n):=by
 have M:=λi a (h:[z,TI,TO,i1,i2,i3][i]?=some a)=>bG h
 have mz:=M 0 z rfl
 have m1:=M 3 i1 rfl
 have P:=λi j a b=>@pw [z,TI,TO,i1,i2,i3] hd i j a b
 have zI:=P 0 1 _ _ rfl rfl (by decide)
 refine⟨λh k b st w=>?_,λh h' k st kp=>?_,λH k s d Q RE wH L1 L2 st hx hQ=>?_,λk T s elts x1 pos Q RE m hQ=>?_,mz,λh k T m w=>m.nT w,λH k s Q RE hh wH L1 L2 st hk hQ=>?_⟩
 ·obtain⟨hz,hI,⟨a,b',d,hO⟩,h1,h2,h3⟩:=st
  exact aaR (P:=λb=> ∃o,h.get? b=some o/\ ¬eJ o) ⟨_,hz,sM rfl (by simp)⟩ (xM hI) (xM hO) (pA h1) (pA h2) ⟨_,h3,sM rfl (by simp[dZ])⟩ b w
 ·obtain⟨hz,hI,⟨a,b',d,hO⟩,h1,h2,h3⟩:=st
  exact⟨kp _ mz _ hz,kp _ (M 1 _ rfl) _ hI,⟨a,b',d,kp _ (M 2 _ rfl) _ hO⟩,h1.at λo e=>kp _ (M 3 _ rfl) o e,h2.at λo e=>kp _ (M 4 _ rfl) o e,kp _ (M 5 _ rfl) _ h3⟩
 ·obtain⟨hz,hI,⟨a,b',d',hO⟩,h1,h2,h3⟩:=st
  obtain⟨x,yd,Y9,hyd,rfl⟩:=BB hx
  refine aU λG9 k9=>?_
  obtain⟨y,dd⟩:=yd
  obtain⟨hy1,hd1⟩:=pc.mp hyd
  obtain⟨hk,ed⟩:=L8 hd1
  obtain⟨n1,vs1,e1,XK⟩:=L1.m5
  obtain⟨n2,vs2,e2,cs2⟩:=L2.m5
  obtain⟨v1,g1,c1⟩:=XK.vg Y9
  obtain⟨v2,g2,c2⟩:=cs2.vg hy1
  refine k9 ?_
  have hT:s.TypeIs (.ref z) "zip":=⟨_,hz,rfl⟩
  unfold pU
  refine ac (K5 (lh (name:=nK "__next__") hT kJ (mM kJ hT Ci
    (L7 (⟨hd,λb m e=>n1 (e▸wH b m),λb m e=>n2 (e▸wH b m)⟩:Pq z TI TO i1 i2 i3 l1 l2) hz hI hO h1 h2 h3 e1 e2 (by simpa using g1) (by simpa using g2) (acV.mpr hk) λh' tk t a1 a2 a3 a4 a5 a6 a7=>aD (hQ _ [v1,v2,.int k t] _ h' tk rfl ⟨a1,a7 _ _ (λm=>?_) hI,a2,a3,a4,a5,λm=>?_⟩ ⟨_,a6,rfl,_,rfl⟩ (.cons c1 (.cons c2 (.cons (by rw[ed];exact .int _ _) .nil))) λb o n e=>a7 b o (λm=>n ?_) e)) (A5 _))))
  ·rcases a0.mp m with m|m
   ·exact zI m.symm
   ·exact(ve.mp (ve.mp hd).2).1 _ m rfl
  ·exact aaR (P:=λb=>s.heap.objs.size≠b) (m6 ⟨_,hz⟩) (m6 ⟨_,hI⟩) (m6 ⟨_,hO⟩) (m6<|(pA h1).imp λU x=>x.1) (m6<|(pA h2).imp λU x=>x.1) (m6 ⟨_,h3⟩) _ m rfl
  ·rcases a0.mp m with e|m
   ·exact e▸mz
   ·exact .tail _<|.tail _ m
 ·obtain⟨hz,hI,⟨a,b',d,hO⟩,h1,h2,h3,_⟩:=m
  refine Jc hz λh' hz' sb=>hQ h' ⟨hz',(sb.2 _ zI.symm).trans hI,⟨a,b',d,(sb.2 _ (P 0 2 _ _ rfl rfl (by decide)).symm).trans hO⟩,h1.extBut sb.extBut (P 0 3 _ _ rfl rfl (by decide)).symm,h2.extBut sb.extBut (P 0 4 _ _ rfl rfl (by decide)).symm,?_⟩ sb
  have e:n - ((k+1:av):aL)=n - (k:aL) - 1:=by rw[x9,acU]
  refine aK e ?_
  exact(sb.2 _ (P 0 5 _ _ rfl rfl (by decide)).symm).trans h3
 ·obtain⟨hz,hI,⟨a,b',d,hO⟩,h1,h2,h3⟩:=st
  refine aU λG9 k9=>?_
  obtain⟨n1,vs1,e1,XK⟩:=L1.m5
  refine k9 ?_
  have hT:s.TypeIs (.ref z) "zip":=⟨_,hz,rfl⟩
  unfold pU
  refine ac (K5 (lh (name:=nK "__next__") hT kJ
   (mM kJ hT Ci (Px hh (P 0 3 _ _ rfl rfl (by decide)).symm (λe=>n1 (by rw[e];exact wH z mz)) hz hI h1 e1 ?_ λh' e hkp he=>?_) (A5 _))))
  ·have:(cG 0 n).length=n.toNat:=by unfold cG;rw[aw,dR,gO]
   refine aK hk ?_
   rw[aw,mC,mC]
   refine aK this<|aK (rX<|Nat.le_min.mpr ⟨hl,hn⟩)<|aK XK.cn.symm ?_
   simp
  ·obtain⟨o,ho,hc⟩:=he
   refine ac<|Zo (T:="StopIteration") (b:=true) ⟨o,ho,hc⟩ isSubtype_stop ?_
   exact aD<|hQ h' λb o n e=>hkp b o (λz=>n<|z▸mz) (λz=>n<|z▸m1) e
end
section
variable{Z:Zs}{O O2:av->aa az}{vs:aa (ag ak)}{δ iZ:Sl}{r r1 r2:Rw}{s s0 s1 s2:af}{K:SK}{x1v x2v x3v:Dl->Rw->bc DV}
theorem BC{W:az->Prop}{z l1 l2}{xs ys items}{St Mid}{elts}{x1}{tpos}{b}{is}{y}{h' tk}(H:sH Z.F)(hnm:iz Z.F is elts)(h1: ∀ex,T ⟨Z.F,ex,Z.sG⟩ (execs b Z.F.au) y)(V0:eK Z O vs δ r s)(V2:eK Z O2 vs iZ r2 s2)(u:fq O O2 s)(T0:gc Z.F r2 s s2)
  (ZW:L6 Z.F.c Z.F.A W z l1 l2 xs ys items St Mid) (st:St h' 0) (L1:d4 Z.F.c (HO Z O2) s2.heap (.ref l1) xs) (L2:d4 Z.F.c (HO Z O2) s2.heap (.ref l2) ys) (kp: ∀b o,s2.heap.get? b=some o->h'.get? b=some o) (nW: ∀b,W b->s2.heap.get? b=none) (q:(dH (j5 is y) items iZ r2).wp K):
  cW Z.F.M Z.F.A (.forLoop (.Tuple elts x1 tpos) (.ref z) b [] Z.F.au) (λr s'=>match r with|.ok f=>mf Z O s K f s'|.error e=>xZ Z.F.M Z.F.A Z.F.au (xJ Z O s K.E) e s') {s2 with heap:=h',toks:=tk}:=by
 have T2:gc Z.F r2 s2 {s2 with heap:=h',toks:=tk}:=.gr V2.g.wd<|.Lw s2 kp
 have nW0: ∀b,W b->s.heap.get? b=none:=λb w=>T0.kp.dp<|nW b w
 have V3:=V2.iY T2 nW λb w=>by
  obtain⟨o,e,_⟩:=ZW.obj _ _ b st w
  exact⟨o,e⟩
 have up:qR (HO Z O2) (HO (Z.iY W) O2) s2.heap:=λb q=>(uF.mp q).imp id<|nW b
 refine T.XF ZW hnm h1 (V0.apart nW0) nW0 (λb w q=>?_) (.mk (k:=0) rfl V3 ⟨st,L1.aW (.all kp) up,L2.aW (.all kp) up⟩ (.of<|T0.seq T2) u q) (λU p=>p) (λU U p=>p) λU U p=>uE H V0.Pj p
 obtain⟨o,e⟩:=V0.g.iu b q
 exact nn<|(nW0 b w).symm.trans e
theorem vR(h:cy)(j:av):h.get? (h.objs.size+j)=none:=by
 cases e:h.get? (h.objs.size+j) with
 |none=>rfl
 |some o=>exact absurd (d5 e) (q7.mpr (c0 _ _))
theorem m7(S:av)(h:i≠j):S+i≠S+j:=λe=>h<|Nat.add_left_cancel e
theorem XM(S:av):D2 (S+4) (S+2) (S+3) S (S+1):=
 ⟨m7 S (by decide),m7 S (by decide),m7 S (j:=0) (by decide),m7 S (by decide),m7 S (by decide),m7 S (j:=0) (by decide),m7 S (by decide),m7 S (j:=0) (by decide),m7 S (by decide),m7 S (i:=0) (by decide)⟩
theorem XN(S:av):[S+5,S+3,S+4,S,S+1,S+2].Pairwise (· ≠ ·):=
 show([5,3,4,0,1,2].map (S+ ·)).Pairwise (· ≠ ·) from gK.mpr<|(by decide:[5,3,4,0,1,2].Pairwise (· ≠ ·)).imp λ{i j} h=>m7 S h
theorem Py{S b}(w:b∈[S+5,S+3,S+4,S,S+1,S+2]): ∃j,b=S+j:=by
 have w:b∈[5,3,4,0,1,2].map (S+ ·):=w
 obtain⟨j,_,e⟩:=bb.mp w
 exact⟨j,e.symm⟩
theorem T.Uc{zx:b9}{zp znp tpos pos:jt}{e1 e2:aX}{elts:aa aX}{x1}{b:aa d6}{is:aa av}{y:Sl->Rw->SR}(O1:Z.F.c.Ok)(H:sH Z.F)(hz:zx="zip")(kz:gp Z.F.au zx=true)(hst:[e1,e2].all cD=true)
  (hnm:iz Z.F is elts) (h1:SE Z.F e1 x1v) (h2:SE Z.F e2 x2v) (hb: ∀ex,T ⟨Z.F,ex,Z.sG⟩ (execs b Z.F.au) y):
  T Z (exec (.For (.Tuple elts x1 tpos) (.Call (.Name zx znp) [e1,e2] [] zp) b [] pos) Z.F.au) (λδ r=>(d9 bA x1v δ r).fZ λp r=>(d9 bA x2v p.2 r).fZ λq r=>dO (on p.1.bW q.1.bW λxs ys=>gL (decide (xs.length<=ys.length)) (xs,ys)) λz=>
   dH (j5 is y) ((z.1.zip z.2).map λp=>.g [p.1,p.2]) q.2 r):=λO vs δ r s K V q=>by
 subst hz
 have p1:=da<|aF.mp hst e1<|.head _
 have p2:=da<|aF.mp hst e2<|.tail _<|.head _
 refine Cb (cR<|fR O1 V.g kz vJ.mem vJ.ne vJ.is<|jk hst (V.g.wd.K O1) (.inr<|.inl ⟨_,rfl⟩)<|bP p1 ?_) (by intro _;rfl)
 refine V.qA qB h1 (eY q) λOa δa v1 d1 s1 r1 ua U D1 Va T1 q1=>bP p2<|aq (Va.qA qB h2 (eY q1) λOb δb v2 d2 s2 r2 ub U D2 Vb T2 q2=>eu ⟨Vb.g.wd.K O1,?_⟩) (λU U z=>z) λU U p=>p.hF (.of T1) ua
 refine aU λG9 k9=>?_
 obtain⟨⟨xs,ys⟩,ez,q3⟩:=ft q2
 obtain⟨ex,ey,ez⟩:=cj ez
 refine k9 ?_
 have hl:=ah<|eh ez
 cases dT ez
 have D1:dm Z.F.c (HO Z Ob) s2.heap v1 d1:=D1.aW (Va.g.g9 T2) ub.hup
 have La:=D1.bW ex
 have Lb:=D2.bW ey
 have eL: ∃l1 l2,v1=.ref l1/\v2=.ref l2:=by
  refine aU λG9 k9=>?_
  obtain⟨e,_⟩:=La
  obtain⟨e',_⟩:=Lb
  refine k9 ?_
  exact⟨_,_,e,e'⟩
 obtain⟨l1,l2,rfl,rfl⟩:=eL
 refine aU λG9 k9=>?_
 obtain⟨_,us,e1',_⟩:=La.m5
 obtain⟨_,us',e2',_⟩:=Lb.m5
 refine k9 ?_
 refine call_zip_2 e1' e2' λh' z1 z2 z3 z4 z5 U kp=>Zn z1 ?_
 exact BC (tk:=s2.toks) H hnm hb V Vb (ua.trans (.of T1) ub) (T1.seq T2) (aaQ (XM s2.heap.objs.size) hl) ⟨z1,z2,⟨_,_,z3⟩,z4,z5⟩ La Lb kp (λb w=>by
  cases w with
  |z=>exact vR _ 4
  |TI=>exact vR _ 2
  |TO=>exact vR _ 3
  |i1=>exact vR _ 0
  |i2=>exact vR _ 1) q3
theorem T.Ud{zx rx:b9}{zp rp znp rnp tpos pos:jt}{e1 e2 en:aX}{elts:aa aX}{x1}{b:aa d6}{is:aa av}{y:Sl->Rw->SR}(O1:Z.F.c.Ok)(H:sH Z.F)(hz:zx="zip")(hr:rx="range")(kz:gp Z.F.au zx=true)(kr:gp Z.F.au rx=true)(hst:[e1,e2,en].all cD=true)
  (hnm:iz Z.F is elts) (h1:SE Z.F e1 x1v) (h2:SE Z.F e2 x2v) (h3:SE Z.F en x3v) (hb: ∀ex,T ⟨Z.F,ex,Z.sG⟩ (execs b Z.F.au) y):
  T Z (exec (.For (.Tuple elts x1 tpos) (.Call (.Name zx znp) [e1,e2,.Call (.Name rx rnp) [en] [] rp] [] zp) b [] pos) Z.F.au) (λδ r=>(d9 bA x1v δ r).fZ λp r=>(d9 bA x2v p.2 r).fZ λq r=>(d9 bA x3v q.2 r).fZ λm r=>
   dO (p.1.bW.bind λxs=>on q.1.bW m.1.cZ λys n=>gL (decide (xs.length<=ys.length)&&decide (xs.length<=n.toNat)&&decide (0<=n)&&decide (n<=9999)) (xs,ys,n)) λz=>
   dH (j5 is y) ((z.1.zip (z.2.1.zip (cG 0 z.2.2))).map λp=>.g [p.1,p.2.1,p.2.2]) m.2 r):=λO vs δ r s K V q=>by
 subst hz hr
 have p1:=da<|aF.mp hst e1<|.head _
 have p2:=da<|aF.mp hst e2<|.tail _<|.head _
 have p3:=da<|aF.mp hst en<|.tail _<|.tail _<|.head _
 have st3:[e1,e2,.Call (.Name "range" rnp) [en] [] rp].all cD=true:=by
  rw[bw,bw,be,be]at hst ⊢
  exact⟨hst.1,hst.2.1,rfl⟩
 have st1:[en].all cD=true:=by
  rw[bw,bw,be,be]at hst
  exact hst.2.2
 refine Cb (cR<|fR O1 V.g kz vJ.mem vJ.ne vJ.is<|jk st3 (V.g.wd.K O1) (.inr<|.inl ⟨_,rfl⟩)<|bP p1 ?_) (by intro _;rfl)
 refine V.qA qB h1 (eY q) λOa δa v1 d1 s1 r1 ua U D1 Va T1 q1=>bP p2<|aq (Va.qA qB h2 (eY q1) λOb δb v2 d2 s2 r2 ub U D2 Vb T2 q2=>bP (da rfl) ?_) (λU U z=>z) λU U p=>p.hF (.of T1) ua
 refine cR<|fR O1 Vb.g kr j9.mem j9.ne j9.is<|jk st1 (Vb.g.wd.K O1) (.inr<|.inl ⟨_,rfl⟩)<|bP p3<|aq (Vb.qA qB h3 (eY q2) λOc δc v3 d3 s3 r3 uc U D3 Vc T3 q3=>eu ⟨Vc.g.wd.K O1,?_⟩) (λU U z=>z) λU U p=>p.hF (.of<|T1.seq T2)<|ua.trans (.of T1) ub
 refine aU λG9 k9=>?_
 obtain⟨⟨xs,ys,n⟩,ez,q4⟩:=ft q3
 obtain⟨ex,ez⟩:=bind_some ez
 obtain⟨ey,en,ez⟩:=cj ez
 refine k9 ?_
 have Ze:=eh ez
 cases dT ez
 simp only[be,g0]at Ze
 obtain⟨t,hv⟩:=D3.cZ en
 subst hv
 have D2:dm Z.F.c (HO Z Oc) s3.heap v2 d2:=D2.aW (Vb.g.g9 T3) uc.hup
 have D1:dm Z.F.c (HO Z Oc) s3.heap v1 d1:=(D1.aW (Va.g.g9 T2) ub.hup:dm Z.F.c (HO Z Ob) s2.heap v1 d1).aW (Vb.g.g9 T3) uc.hup
 have La:=D1.bW ex
 have Lb:=D2.bW ey
 have eL: ∃l1 l2,v1=.ref l1/\v2=.ref l2:=by
  refine aU λG9 k9=>?_
  obtain⟨e,_⟩:=La
  obtain⟨e',_⟩:=Lb
  refine k9 ?_
  exact⟨_,_,e,e'⟩
 obtain⟨l1,l2,rfl,rfl⟩:=eL
 refine NM<|eu ⟨(Vc.g.wd.gr<|.push ..).K O1,?_⟩
 generalize hs4:({s3 with heap:=s3.heap.push {cls:=.type "range",data:=.fields #[.int 0 s3.toks,.int n t,.int 1<|s3.toks+1]},toks:=s3.toks+1+1}:af)=s4
 have T4:gc Z.F r3 s3 s4:=hs4▸.push Vc.g.wd _ _
 have Vd:=Vc.kG T4
 have fx:=Vc.g.g9 T4
 have La:=La.aW fx<|.cm _ _
 have Lb:=Lb.aW fx<|.cm _ _
 refine aU λG9 k9=>?_
 obtain⟨_,us,e1',_⟩:=La.m5
 obtain⟨_,us',e2',_⟩:=Lb.m5
 refine k9 ?_
 have sm:=CU (n:=n) ⟨ay (by decide) Ze.1.2,Ze.2⟩
 refine HT (Zt (by decide) (by decide) sm.1 sm.2) e1' e2' (hs4▸ww .. :IsRange s4.heap s3.heap.objs.size 0 n 1 s3.toks t (s3.toks+1)) λh' z1 z2 z3 z4 z5 z6 kp=>Zn z1 ?_
 exact BC (tk:=s4.toks) H hnm hb V Vd ((ua.trans (.of T1) ub).trans (.of (T1.seq T2)) uc) (((T1.seq T2).seq T3).seq T4) (aaT (XN s4.heap.objs.size) Ze.1.1.1 Ze.1.1.2) ⟨z1,z2,⟨_,_,_,z3⟩,z4,z5,by
  have e:jg 0 n 1=n - ((0:av):aL):=by
   rw[K6,O3,gO,hU Ze.1.2];exact(gO n).symm
  rw[e]at z6
  exact z6⟩ La Lb kp (λb w=>by
  obtain⟨j,aaU⟩:=Py w
  refine aK aaU ?_
  exact vR _ j) q4
end
theorem AF(names:aa (b9×eB)): ∀(n:av) (acc:aa (b9×az)),((x,fP)∈names\/(acc.lookup x).isSome=true)->((li n names acc).lookup x).isSome=true:=by
 induction names with
 |nil=>exact λn acc h=>h.elim (λh=>nomatch h) id
 |cons p r ih=>
  obtain⟨y,k⟩:=p
  intro n acc h
  by_cases hk:k=.cell
  ·refine aK hk ?_
   refine(?_:((li (n+1) r<|(y,n)::acc).lookup x).isSome=true)
   refine ih _ _ ?_
   rcases h with h|h
   ·rcases a0.mp h with e|h
    ·cases e;exact .inr (by rw[cB,bH];rfl)
    ·exact .inl h
   ·refine .inr ?_
    rw[cB]
    cases x==y with
    |true=>rfl
    |false=>exact h
  ·refine aK (show li n ((y,k)::r) acc=li n r acc from aN λz=>hk<|eq_of_beq z) ?_
   refine ih _ _<|h.imp (λh=>?_) id
   rcases a0.mp h with e|h
   ·cases e;exact absurd rfl hk
   ·exact h
theorem yK(names:aa (b9×eB)): ∀(n:av) (acc:aa (b9×az)),(names.map<|λx=>x.1).Nodup->(acc.map<|λx=>x.1).Nodup->(∀x∈names.map (λx=>x.1),x∉acc.map (λx=>x.1))->((li n names acc).map<|λx=>x.1).Nodup:=by
 induction names with
 |nil=>exact λU U U h U=>h
 |cons p r ih=>
  obtain⟨y,k⟩:=p
  intro n acc hn ha hd
  rw[dK,bB]at hn
  by_cases hk:k=.cell
  ·refine aK hk ?_
   refine(?_:((li (n+1) r<|(y,n)::acc).map<|λx=>x.1).Nodup)
   refine ih _ _ hn.2 (bB.mpr ⟨hd y<|.head _,ha⟩) λx hx hm=>?_
   rcases a0.mp hm with e|hm
   ·have e:x=y:=e
    subst e;exact hn.1 hx
   ·exact hd x (.tail _ hx) hm
  ·refine aK (show li n ((y,k)::r) acc=li n r acc from aN λz=>hk<|eq_of_beq z) ?_
   exact ih _ _ hn.2 ha λx hx=>hd x<|.tail _ hx
section
variable{x4:b9->ag eB}{x:b9}{v:ak}
theorem Pz: ∀{m:b9->ag ak},x∉mh.map (λx=>x.1)->bindL x4 mh m x=m x:=by
 induction mh with
 |nil=>exact λU=>rfl
 |cons p r ih=>
  intro m h
  refine(ih λz=>h<|.tail _ z).trans ?_
  by_cases hk:x4 p.1=some .local
  ·refine aK (aJ hk) ?_
   exact aN λ(z:x=p.1)=>h (by rw[z];exact .head _)
  ·exact aK (aN hk) rfl
theorem PA: ∀{m:b9->ag ak} {i:av},(mh.map<|λx=>x.1).Nodup->mh[i]?=some (x,v)->x4 x=some .local->bindL x4 mh m x=some v:=by
 induction mh with
 |nil=>exact λU h U=>nn h
 |cons p r ih=>
  intro m i hn h hk
  rw[dK,bB]at hn
  cases i with
  |zero=>
   cases am h
   refine(Pz hn.1).trans ?_
   refine aK (aJ hk) ?_
   exact aJ rfl
  |succ i=>exact ih hn.2 h hk
theorem PB: ∀{m:b9->ag ak},x∉mh.map (λx=>x.1)->bindC x4 mh m x=m x:=by
 induction mh with
 |nil=>exact λU=>rfl
 |cons p r ih=>
  intro m h
  refine(ih λz=>h<|.tail _ z).trans ?_
  by_cases hk:x4 p.1=some .local
  ·exact aK (aJ hk) rfl
  ·refine aK (aN hk) ?_
   exact aN λ(z:x=p.1)=>h (by rw[z];exact .head _)
theorem PD: ∀{m:b9->ag ak} {i:av},(mh.map<|λx=>x.1).Nodup->mh[i]?=some (x,v)->x4 x≠some .local->bindC x4 mh m x=some v:=by
 induction mh with
 |nil=>exact λU h U=>nn h
 |cons p r ih=>
  intro m i hn h hk
  rw[dK,bB]at hn
  cases i with
  |zero=>
   cases am h
   refine(PB hn.1).trans ?_
   refine aK (aN hk) ?_
   exact aJ rfl
  |succ i=>exact ih hn.2 h hk
end
structure yL(fd:fe)(ps:aa b9)(Λ:aa (ag b9))(body:aa d6):Prop where
 body:fd.body=.stmts body
 clo:fd.closure=[]
 kind:fd.scope.kind=.function
 co:fd.scope.isCoroutine=false
 gen:fd.scope.isGenerator=false
 globals:fd.globals=cf
 builtins:fd.builtins=hY
 names:(fd.scope.names.map<|λx=>x.1).Nodup
 params: ∀x∈ps,fd.scope.names.lookup x=some .local\/fd.scope.names.lookup x=some .cell
 slots: ∀(i:av) x,ps[i]?=some x->Λ[i]?=some (some x)
 inj: ∀(i j:av) x,Λ[i]?=some (some x)->Λ[j]?=some (some x)->i=j
 cn:ps.length<=Λ.length
 md:ps.Nodup
structure BD(au:tx)(fd:fe):Prop where
 sc:au.scope=fd.scope
 code:au.code=fd.code
 qual:au.qual=fd.qualname++".<locals>."
noncomputable def kX(Λ:aa (ag b9))(vals:aa ak):aa (ag ak):=vals.map some++bo (Λ.length - vals.length) none
structure BE(F:Fx)(fd:fe)(Λ:aa (ag b9))(vals:aa ak)(s:af)(au:tx)(h1:cy):Prop where
 of:BD au fd
 fr:au.frame=some au.locals
 keep: ∀b o,s.heap.get? b=some o->h1.get? b=some o
 tW:s.heap.get? au.locals=none
 XP: ∀p∈au.cells,s.heap.get? p.2=none
 ev:iI au Λ (kX Λ vals) h1
 cE:h1.FunFrames {} (au::F.du)
theorem HV{Λ:aa (ag b9)}{vals:aa ak}{i:av}{v:ak}(h:(kX Λ vals)[i]?=some (some v)):vals[i]?=some v:=by
 unfold kX at h
 rw[Jm]at h
 by_cases z:i<(vals.map some).length
 ·rw[aJ z]at h
  obtain⟨e,h⟩:=c9<|(bl ..).symm.trans h
  cases am h
  exact e
 ·rw[aN z,qw]at h
  split at h
  ·exact nn<|am h
  ·exact nn h
theorem pB{Λ:aa (ag b9)}{vals:aa ak}{i:av}{v:ak}(h:vals[i]?=some v):(kX Λ vals)[i]?=some (some v):=by
 unfold kX
 rw[List.getElem?_append_left (by rw[aw];exact(aY.mp h).1),bl,h]
 rfl
section
variable{F:Fx}{H:az->Prop}{r:Rw}{s:af}
set_option backward.match.sparseCases true in
theorem mJ{fd:fe}{ps:aa b9}{Λ:aa (ag b9)}{body:aa d6}{a:az}{o:Obj}{vals vs:aa ak}{R:tq->af->Prop}(O:F.c.Ok)(D:yL fd ps Λ body)(hK:F.c.K.lookup a=some o)(hd:o.data=.func fd)(hcd:F.c.cV.CodeRec fd.code fd.qualname)
  (hbind: ∀s:af,F.c.K.In s.heap->qW s fd ⟨vals,[]⟩ (ps.zip vs)) (hvs:vs.length=ps.length) (C:Cl F H r s)
  (h: ∀au h1 uH,BE F fd Λ vs s au h1->
   wpAny F.M (F.A.deeper au) (execs body au) (λf s'=>R (.ok<|.ret (match f with|.ret v=>v|_=>.none)) s')
    (λe s'=>wpAny F.M (F.A.deeper au) (YS au e) (λU s''=>R (.error e) s'') (λe' s''=>R (.error e') s'') s') {s with heap:=h1,toks:=uH}):
  cW F.M F.A (.call (.ref a) ⟨vals,[]⟩) R s:=by
 have K:=C.wd.K O
 have XQ:(ps.zip vs).map (λx=>x.1)=ps:=by rw[Sv<|cX hvs.symm]
 have hbn:((ps.zip vs).map<|λx=>x.1).Nodup:=XQ.symm▸D.md
 refine codeAny_call_function (aI (ao (c0 ..) C.er.depth) (by decide)) (K _ _ hK) hd D.co D.gen D.body (hcd.keeps C.wd.cV) ?_
 rw[D.clo]
 refine hbind s K _ _ _ _ ?_
 have hcell: ∀y,fd.scope.names.lookup y=some .cell-> ∃ca,(li (s.heap.objs.size+1) fd.scope.names []).lookup y=some ca:=λy e=>bJ.mp<|AF _ _ _<|.inl<|cJ e
 refine wpAny_newFunctionEnv_cells D.kind (λx hx=>?_) λau he s1 x=>⟨O.nolimit.keeps λb o e=>x.toInCall.keep b o<|C.wd.cV b o e,?_⟩
 ·refine(D.params x.1<|XQ▸g7 hx).imp id λe=>⟨e,?_⟩
  refine bN (hcell x.1 e) λca e=>?_
  exact bJ.mpr ⟨ca,e⟩
 have C8:au.scope=fd.scope:=by rw[he];rfl
 have hL:au.locals=s.heap.objs.size:=by rw[he];rfl
 have hframe:au.frame=some s.heap.objs.size:=by rw[he];rfl
 have PE:au.cells=li (s.heap.objs.size+1) fd.scope.names []:=by rw[he];rfl
 have NC: ∀y,au.kindOf y=fd.scope.names.lookup y:=λy=>by unfold vl;rw[C8]
 have hkeys:(au.cells.map<|λx=>x.1).Nodup:=by rw[PE];exact yK _ _ _ D.names A6<|λU U h=>nomatch h
 refine jK x.toInCall.same λh1 uH Cy=>?_
 subst Cy
 have keep: ∀b o,s.heap.get? b=some o->h1.get? b=some o:=x.toInCall.keep
 have aeN: ∃o,h1.get? au.locals=some o/\ ∀vs,o.data≠.fields vs:=by
  refine A9 x.toInCall.ns λo es ep h9=>n7 h9 λe Hn U=>?_
  exact⟨o,e,λvs q=>by rw[Hn]at q;exact absurd q (by simp)⟩
 have cx: ∀{i y v},Λ[i]?=some (some y)->(kX Λ vs)[i]?=some (some v)->(ps.zip vs)[i]?=some (y,v):=λ{i y v} h2 h3=>by
  have ha:=HV h3
  have hi:i<ps.length:=hvs▸(aY.mp ha).1
  have e:=D.slots i _<|aC hi
  cases h2.symm.trans e
  exact pc.mpr ⟨aC hi,ha⟩
 have Wf: ∀{y},au.kindOf y=some .cell-> ∃ca,au.cells.lookup y=some ca/\h1.IsCell ca (bindC au.kindOf (ps.zip vs) (λU=>none) y):=λ{y} e=>by
  refine bN (hcell y<|(NC y).symm.trans e) λca hca=>?_
  rw[←PE]at hca
  exact⟨ca,hca,x.cell y ca hca⟩
 have V1:iI au Λ (kX Λ vs) h1:=by
  refine⟨by rw[C8];exact D.kind,by rw[he];exact D.globals,by rw[he];exact D.builtins,?_,⟨_,x.toInCall.ns,λi y v h2 h3 h4=>PA hbn (cx h2 h3) h4⟩,λi y v h2 h3 h4=>?_,λy h2=>?_,x.apart,D.inj,λp hp=>?_⟩
  ·unfold kX
   rw[aP,aw,iD]
   exact aK (Nu<|hvs▸D.cn) rfl
  ·have e:=cx h2 h3
   have hnl:au.kindOf y≠some .local:=λz=>h4.elim (λw=>absurd (z.symm.trans w) (by decide)) λw=>absurd (z.symm.trans w) (by decide)
   have hcl:au.kindOf y=some .cell:=by
    rw[NC]at hnl ⊢
    exact(D.params y<|XQ▸g7 (f:=(λx=>x.1)) (bG e)).resolve_left hnl
   refine bN (Wf hcl) λca h9=>cK h9 λhca hc=>?_
   exact⟨ca,hca,PD hbn e hnl▸hc⟩
  ·refine bN (Wf h2) λca h9=>cK h9 λhca hc=>?_
   exact⟨ca,_,hca,hc⟩
  ·refine bN (x.cell p.1 p.2<|lookup_of_mem_nodup hkeys hp) λo h9=>cK h9 λe U=>?_
   exact⟨o,e⟩
 refine codeAny_func<|h au h1 uH ⟨⟨C8,by rw[he];rfl,by rw[he];rfl⟩,hL▸hframe,keep,hL▸bL _,λp hp=>?_,V1,⟨by rw[C8,D.kind];decide,⟨s.heap.objs.size,?_⟩,?_⟩⟩
 ·cases e:s.heap.get? p.2 with
  |none=>rfl
  |some o=>
   have h2:=x.above p.1 p.2 hp
   rw[hL]at h2
   exact absurd (Nat.lt_trans h2<|d5 e)<|pY _
 ·refine bN aeN λo h9=>cK h9 λe n=>?_
  rw[hL]at e
  exact⟨o,hframe,rfl,e,n⟩
 ·exact iH (λL m o e d=>⟨o,keep L o e,d⟩) C.er.cE
end
noncomputable abbrev Fx.dw(F:Fx)(fg:av)(Λ:aa (ag b9))(au:tx):Fx:=⟨F.c,F.A.deeper au,fg,au::F.du,au,Λ⟩
section
variable{F:Fx}{H X Y:az->Prop}{r r1:Rw}{s s':af}{fd:fe}{Λ:aa (ag b9)}{vals:aa ak}{au:tx}{h1 h':cy}{fg uH:av}{O:av->aa az}{xs:aa DV}{E:aa av->Rw->Prop}{pn:ag ak}
theorem PF(En:BE F fd Λ vals s au h1):jU (au::F.du)=au.locals::jU F.du:=by
 unfold jU
 rw[mS,En.fr]
theorem BE.here(En:BE F fd Λ vals s au h1):sH (F.dw fg Λ au):=⟨⟨F.du,rfl⟩,⟨_,En.fr⟩⟩
theorem BE.no(En:BE F fd Λ vals s au h1){b}(e:h1.get? b=none):s.heap.get? b=none:=by
 cases z:s.heap.get? b with
 |none=>rfl
 |some o=>exact nn (e.symm.trans (En.keep b o z))
theorem BE.ic(En:BE F fd Λ vals s au h1)(l:yi au b):s.heap.get? b=none:=by
 rcases l with rfl|⟨p,hp,rfl⟩
 ·exact En.tW
 ·exact En.XP p hp
theorem BE.kp(En:BE F fd Λ vals s au h1)(k:Kp X (jU<|au::F.du) h1 h')(hX: ∀b o,s.heap.get? b=some o->X b->Y b):Kp Y (jU F.du) s.heap h':=by
 replace k:=(PF En)▸k
 refine⟨λb o e=>k.cE b o<|En.keep b o e,λb o e n f=>k.pq b o (En.keep b o e) (λx=>n<|hX b o e x) λm=>?_,λb o e n f=>k.NB b o (En.keep b o e) (λx=>n<|hX b o e x)<|.tail _ f⟩
 rcases a0.mp m with rfl|m
 ·exact nn<|En.tW.symm.trans e
 ·exact f m
noncomputable abbrev ol(H:az->Prop)(O:av->aa az)(b:az):Prop:=H b/\ ∀i,b∉O i
theorem BE.fr_(En:BE F fd Λ vals s au h1)(m:b∈jU (au::F.du)):b=au.locals\/b∈jU F.du:=by
 rw[PF En]at m
 exact a0.mp m
theorem BE.up(En:BE F fd Λ vals s au h1)(C:Cl F H r s)(hO: ∀i,Pp F H<|O i):qR H (HO ⟨F.dw fg Λ au,ol H O,pn⟩ O) s.heap:=λb q=>by
 rcases q with((q|q|q)|q)|⟨i,m⟩
 ·rcases En.fr_ q with rfl|m
  ·exact .inr En.tW
  ·exact .inl (C.er.apart b m).1
 ·exact .inr<|En.ic q
 ·exact .inl<|C.hx b q
 ·exact .inl q.1
 ·exact .inl<|(hO i).inH b m
theorem BE.gds(En:BE F fd Λ vals s au h1)(C:Cl F H r s)(hl:fg+1<=F.lv){δ:Sl}(hO: ∀i,Pp F H<|O i)(E4: ∀i j b,b∈O i->b∈O j->i=j)
  (hpn: ∀v,pn=some v->vals[0]?=some v) (O6: ∀(i:av) p,δ[i]?=some (some p)-> ∃v,vals[i]?=some v/\(p.1=false->dm F.c H s.heap v p.2)/\(p.1=true->nQ F.c H s.heap v p.2 (O i))):eK ⟨F.dw fg Λ au,ol H O,pn⟩ O (kX Λ vals) δ r {s with heap:=h1,toks:=uH}:=by
 have W1:Wd F.c r {s with heap:=h1,toks:=uH}:=C.wd.all En.keep
 have fx:mF H s.heap h1:=.all En.keep
 have fr: ∀b,b∈jU (au::F.du)->b=au.locals\/b∈jU F.du:=λb=>En.fr_
 have up:=En.up (fg:=fg) (pn:=pn) C hO
 have th: ∀b,yi au b-> ∃o,h1.get? b=some o:=λb l=>by
  rcases l with rfl|⟨p,hp,rfl⟩
  ·refine bN En.ev.ns λm h9=>cK h9 λZM U=>?_
   obtain⟨o,es,ep,e,_⟩:=ZM
   exact⟨o,e⟩
  ·exact En.ev.SJ p hp
 refine⟨⟨W1,⟨by show(F.A.frames.map (au:: ·))=_;rw[C.er.frames];rfl,En.cE,λb m=>⟨.inl<|.inl<|.inl m,?_⟩,?_,?_,C.er.handled⟩,En.ev,λb l=>⟨.inl<|.inl<|.inr<|.inl l,C.wd.gb<|En.ic l,C.wd.uu<|En.ic l⟩,λb x=>.inl<|.inl<|.inr<|.inr x,λb q=>?_,λi d e=>?_⟩,λi d e=>?_,E4,λi b m=>⟨(hO i).cV b m,λq=>?_⟩,λv d e U=>pB<|hpn v e⟩
 ·rcases fr b m with rfl|m
  ·exact⟨C.wd.gb En.tW,C.wd.uu En.tW⟩
  ·exact(C.er.apart b m).2
 ·have:=C.er.depth
  exact vy (by assumption) this (by decide)
 ·have:=C.er.units
  exact vy (by assumption) this (by decide)
 ·rcases q with((q|q|q)|q)|⟨i,m⟩
  ·rcases fr b q with rfl|m
   ·exact th _<|.inl rfl
   ·refine bN (jL C.er.cE m) λo h9=>cK h9 λe U=>?_
    exact⟨o,En.keep b o e⟩
  ·exact th b q
  ·refine bN (C.iu b<|C.hx b q) λo e=>?_
   exact⟨o,En.keep b o e⟩
  ·refine bN (C.iu b q.1) λo e=>?_
   exact⟨o,En.keep b o e⟩
  ·refine bN (C.iu b<|(hO i).inH b m) λo e=>?_
   exact⟨o,En.keep b o e⟩
 ·refine bN (O6 i _<|gj.mp e) λv h9=>n7 h9 λe1 k U=>?_
  exact⟨v,pB e1,(k rfl).aW fx up⟩
 ·refine bN (O6 i _ e) λv h9=>n7 h9 λe1 U k=>?_
  exact⟨v,pB e1,(k rfl).aW fx up λa U o e=>En.keep a o e⟩
 ·refine bN (C.iu b<|(hO i).inH b m) λo eb=>?_
  rcases q with(q|q|q)|q
  ·rcases fr b q with rfl|m'
   ·exact nn<|En.tW.symm.trans eb
   ·exact(hO i).fr b m m'
  ·exact nn<|(En.ic q).symm.trans eb
  ·exact(hO i).xe b m q
  ·exact q.2 i m
theorem BE.aaX{ex:az->Prop}{us δ}{e:ak}{RE:ak->af->Prop}{Q:Ah->af->Prop}(En:BE F fd Λ vals s au h1)(V:eK ⟨F.dw fg Λ au,ex,pn⟩ O us δ r {s with heap:=h1,toks:=uH})(p:xJ ⟨F.dw fg Λ au,ex,pn⟩ O {s with heap:=h1,toks:=uH} E e s')
  (hO: ∀i b,b∈O i->cC) (hQ: ∀s'',PX F s E e s''->Q () s''):wpAny F.M (F.A.deeper au) (YS au e) Q RE s':=by
 obtain⟨rfl,X,T,q,hd,th⟩:=p
 refine yI (Z:=⟨F.dw fg Λ au,ex,pn⟩) rfl En.fr V.Pj ⟨X,T,q,th⟩ hd λh'' xL=>hQ _ ?_
 obtain⟨xL⟩:=xL
 exact⟨rfl,xL.X'.le λb=>En.no,⟨xL.T.wd,En.kp xL.T.kp λb o e x=>x.elim id λx=>x.elim (λl=>nn<|(En.ic l).symm.trans e) λx=>(hO _ _ x.choose_spec).elim,df ⟨h1,uH,rfl⟩ xL.T.same⟩,xL.q,λL e=>nn<|am e⟩
theorem BE.kG{ex:az->Prop}(En:BE F fd Λ vals s au h1)(T:oh ⟨F.dw fg Λ au,ex,pn⟩ O r {s with heap:=h1,toks:=uH} s')(hO: ∀i b,b∈O i->cC):gc F r s s':=
 ⟨T.wd,En.kp T.kp λb o e x=>x.elim id λx=>x.elim (λl=>nn<|(En.ic l).symm.trans e) λx=>(hO _ _ x.choose_spec).elim,df ⟨h1,uH,rfl⟩ T.same⟩
end
structure InF(c:Cx)(I:bx)(fd:fe)(F:Fx):Prop where
 c:F.c=c
 lv:F.lv=I.fg
 Λ:F.Λ=I.Λ
 of:BD F.au fd
 here:sH F
def vS(c:Cx)(I:bx)(fd:fe)(body:aa d6)(x:Sl->Rw->SR):Prop:=
 ∀F:Fx,InF c I fd F-> ∀ex pn,(I.mu.contains 0=true->pn=none)->T ⟨F,ex,pn⟩ (execs body F.au) x
structure L9(c:Cx)(a:az)(fd:fe)(I:bx)(body:aa d6):Prop where
 D:yL fd I.ps I.Λ body
 K: ∃o,c.K.lookup a=some o/\o.data=.func fd
 code:c.cV.CodeRec fd.code fd.qualname
 bind: ∀(s:af) (vals:aa ak),c.K.In s.heap->vals.length=I.ps.length->qW s fd ⟨vals,[]⟩ (I.ps.zip vals)
section
variable{c:Cx}{a:az}{fd:fe}{I:bx}{body:aa d6}{x:Sl->Rw->SR}{ct:av->aa DV->Rw->bc DV}
theorem vT{I:bx}{xs:aa DV}{i:av}{p:aM×DV}(h:(eH I xs)[i]?=some (some p)): ∃d:DV,xs[i]?=some d/\p=(false,d):=by
 unfold eH at h
 rw[Jm]at h
 by_cases z:i<(xs.map λd=>some (false,d)).length
 ·rw[aJ z]at h
  obtain⟨e,h⟩:=c9<|(bl ..).symm.trans h
  exact⟨_,e,(am<|am h).symm⟩
 ·rw[aN z,qw]at h
  split at h
  ·exact nn<|am h
  ·exact nn h
theorem BF{F:Fx}{H:az->Prop}: ∀i:av,Pp F H (O0 i):=λU=>⟨λU m=>(nomatch m),λU m=>(nomatch m),λU m=>(nomatch m),λU m=>(nomatch m)⟩
theorem XR: ∀(i:av) (b:az),b∈O0 i->False:=λU U m=>nomatch m
theorem Fa{F:Fx}{H r s vs xs}{K:SK}{R:tq->af->Prop}(hc:F.c=c)(hl:I.fg+1<=F.lv)(C:Cl F H r s)(cs:e8 F.c H s.heap vs xs)(hn:xs.length=I.ps.length)(O:c.Ok)(A:L9 c a fd I body)(h:vS c I fd body x)(q:(x (eH I xs) r).wp K)
  (hN: ∀δ r' s',K.N δ r'->gc F r' s s'->R (.ok<|.ret .none) s') (hR: ∀v d r' s',dm F.c H s'.heap v d->K.R d r'->gc F r' s s'->R (.ok<|.ret v) s') (hW: ∀v d r' s',VW F.c H s s' v d->K.W d r'->gc F r' s s'->R (.ok<|.ret v) s') (hE: ∀e s',PX F s K.E e s'->R (.error e) s'):
  cW F.M F.A (.call (.ref a) ⟨vs,[]⟩) R s:=by
 subst hc
 obtain⟨o,hK,hd⟩:=A.K
 have hvs:vs.length=I.ps.length:=cs.cn.trans hn
 refine mJ O A.D hK hd A.code (λs K=>A.bind s vs K hvs) hvs C λau h1 uH En=>?_
 have V:=En.gds (uH:=uH) C hl (O:=O0) (δ:=eH I xs) BF (λi j b m=>nomatch m) (pn:=none) (λv e=>nn e) λi p e=>by
  obtain⟨d,e1,PG⟩:=vT e
  refine aK PG ?_
  obtain⟨v,e2,D⟩:=cs.vg e1
  exact⟨v,e2,λU=>D,λz=>by cases z⟩
 have f9: ∀b,H b->H1 ⟨F.dw I.fg I.Λ au,ol H O0,none⟩ b:=λb q=>.inr ⟨q,λU m=>(nomatch m)⟩
 refine aq (h (F.dw I.fg I.Λ au) ⟨rfl,rfl,rfl,En.of,En.here⟩ _ _ (λU=>rfl) _ _ _ _ _ K V q) (λf s' p=>?_) λe s' p=>En.aaX V p XR λs''=>hE e s''
 cases f with
 |next=>
  obtain⟨_,T,_,q⟩:=p
  exact hN _ _ _ q<|En.kG T XR
 |ret v=>
  cases p with
  |val D T q=>exact hR v _ _ _ (D.aW (.cm _ _)<|.f9 f9) q<|En.kG T XR
  |nF D n T q=>exact hW v _ _ _ ⟨_,D.aW (.cm _ _) (.f9 λb q=>q.imp (f9 b) id) λU U U e=>e,λb m=>(n b m).elim (λw=>(XR _ _ w.choose_spec).elim) λe=>En.no e⟩ q<|En.kG T XR
 |brk=>exact p.elim
 |cont=>exact p.elim
theorem XS(O:c.Ok)(A:L9 c a fd I body)(h:vS c I fd body λδ r=>bM ct I.mu I.body δ r):mZ c (I.fg+1) (.ref a) VD (eR ct I):=λF H r s vs xs Q E hc hl C cs q=>by
 unfold eR at q
 by_cases hn:xs.length=I.ps.length
 ·replace q:=(aJ hn)▸q
  exact Fa (K:=⟨λU r=>Q .f r,Q,λU U=>cC,E⟩) hc hl C cs hn O A h (by
   cases e:bM ct I.mu I.body (eH I xs) r<;>rw[e]at q<;>exact q) (λδ r' s' q T=>⟨_,rfl,.none,T,q⟩) (λv d r' s' D q T=>⟨_,rfl,D,T,q⟩) (λv d r' s' D q T=>q.elim) λe s' p=>p
 ·replace q:=(aN hn)▸q
  exact q.elim
theorem Ue(O:c.Ok)(A:L9 c a fd I body)(h:vS c I fd body λδ r=>bM ct I.mu I.body δ r):mZ c (I.fg+1) (.ref a) VW (Cu ct I):=λF H r s vs xs Q E hc hl C cs q=>by
 unfold Cu at q
 by_cases hn:xs.length=I.ps.length
 ·replace q:=(aJ hn)▸q
  exact Fa (K:=⟨λU U=>cC,λU U=>cC,Q,E⟩) hc hl C cs hn O A h (by
   cases e:bM ct I.mu I.body (eH I xs) r<;>rw[e]at q<;>exact q) (λδ r' s' q T=>q.elim) (λv d r' s' D q T=>q.elim) (λv d r' s' D q T=>⟨_,rfl,D,T,q⟩) λe s' p=>p
 ·replace q:=(aN hn)▸q
  exact q.elim
end
section
variable{c:Cx}{a:az}{fd:fe}{I:bx}{body:aa d6}{ct:av->aa DV->Rw->bc DV}
theorem PH(m:b∈iK O0 0 L i):i=0/\b∈L:=(e9 m).elim id λm=>(XR _ _ m.2).elim
theorem Uf{Q:DV->Rw->Prop}(q:(Tl x).wp Q E):x.wp ⟨λδ r=> ∃d,dJ δ 0=some d/\Q d r,λU U=>cC,λU U=>cC,λU U=>cC⟩:=by
 cases x with
 |a δ r=>
  obtain⟨e,q⟩:=bc.dU q
  exact⟨_,e,q⟩
 |_=>exact q.elim
theorem Ug(O:c.Ok)(A:L9 c a fd I body)(h:vS c I fd body λδ r=>bM ct I.mu I.body δ r)(hm:I.mu.contains 0=false):JV c (I.fg+1) (.ref a) (Ls ct I):=λF H r s v d L vs xs Q E hc hl C oL D cs q=>by
 subst hc
 unfold Ls at q
 by_cases hn:(d::xs).length=I.ps.length
 ·rw[aJ hn]at q
  obtain⟨o,hK,hd⟩:=A.K
  have hvs:(v::vs).length=I.ps.length:=(aE (λx=>x+1) cs.cn).trans hn
  refine mJ O A.D hK hd A.code (λs K=>A.bind s (v::vs) K hvs) hvs C λau h1 uH En=>?_
  have V:=En.gds (uH:=uH) (pn:=some v) C hl (O:=iK O0 0 L) (δ:=Cv I (d::xs)) (λi=>by
   by_cases z:i=0
   ·subst z;rw[jN];exact oL
   ·rw[qf z];exact BF i) (λi j b m m'=>(PH m).1.trans (PH m').1.symm) (λw e=>by cases e;rfl) λi p e=>by
   cases i with
   |zero=>
    cases am (am e)
    exact⟨v,rfl,λz=>Bool.noConfusion z,λU=>by rw[jN];exact D⟩
   |succ i=>
    obtain⟨d',e1,PI⟩:=vT (I:=I) e
    refine aK PI ?_
    obtain⟨v',e2,D'⟩:=cs.vg e1
    exact⟨v',e2,λU=>D',λz=>by cases z⟩
  refine aq (h (F.dw I.fg I.Λ au) ⟨rfl,rfl,rfl,En.of,En.here⟩ _ _ (λe=>by rw[hm]at e;cases e) _ _ _ _ _ _ V<|Uf q) (λf s' p=>?_) λe s' p=>?_
  ·cases f with
   |next=>
    obtain⟨V',T',u,q⟩:=p
    obtain⟨d',e,q⟩:=q
    obtain⟨v',hv',D',Pv⟩:=V'.ro e
    cases Pv rfl v rfl
    refine⟨rfl,.mk (D'.aW (.cm _ _) (.f9 λb q=>?_) λU U U e=>e) (λb m=>(u 0 b m).imp (λw=>(PH w.choose_spec).2) λe=>En.no e) T'.wd (En.kp T'.kp λb o e x=>x.elim .inl λx=>x.elim (λl=>nn<|(En.ic l).symm.trans e) λx=>.inr (PH x.choose_spec).2) (df ⟨h1,uH,rfl⟩ T'.same) q⟩
    exact q.elim (λq=>.inl<|.inr ⟨q.1,λi m=>q.2 (PH m).2⟩) λm=>.inr ⟨0,m⟩
   |ret v=>
    cases p with
    |val D T q=>exact q.elim
    |nF D n T q=>exact q.elim
   |brk=>exact p.elim
   |cont=>exact p.elim
  ·obtain⟨_,_,_,q,_,_⟩:=p
   exact q.elim
 ·rw[aN hn]at q
  exact q.elim
end
section
open PySem.Builtin PySem.Builtin.ObjectAttr
noncomputable def iC:aa Nat:=[109,101,115,115,97,103,101]
noncomputable def Ma:aa Value:=[.ref 24,.type "Exception",.type "BaseException",.type "object"]
noncomputable abbrev Mb(C:az):Obj:=excClassObj "Refusal" "Refusal" C 43 [.ref 24] Ma true [] [] false none none (some<|.ref 28) none (some<|.str "Refusal" 209) (some<|.str "Refusal" 217) (some<|.bool true) "Exception.__new__"
noncomputable abbrev aeP(C:az):ClassData:={name:="Refusal",bases:=[.ref 24],mro:=.ref C::Ma,ns:=43,qualname:="Refusal",hasDict:=true,slotNames:=[],subclasses:=[],abstract:=false,collection:=none,hasDel:=false}
theorem PJ:Ma.contains (.type "BaseException")=true:=by kernel_rfl
theorem aaY:Ma.contains (.type "object")=true:=by kernel_rfl
theorem aaZ(j8:ak):refuseLoop j8 "__setattr__" Ma=pure ():=by kernel_rfl
structure vU(c:Cx):Prop where
 obj:c.K.lookup (c.cls 9)=some (Mb<|c.cls 9)
 tail:OwnTail c.cV [.type "Exception",.type "BaseException",.type "object"] Ma
 name:nsIn c.K cf (c.fY 9)=some (some<|.ref<|c.cls 9)
 keep:vh c.K (.ref<|c.cls 9)=true
 C5:ji c.K (.ref<|c.cls 9) "__setattr__"=some (some<|.builtin "object.__setattr__")
 aa0:YU c.K (c.cls 9) (br iC)=some none
 ga:ji c.K (.ref<|c.cls 9) "__getattribute__"=some (some<|.builtin "BaseException.__getattribute__")
 XT:ji c.K (.ref<|c.cls 9) "__getattr__"=some none
 plain:ji c.K (.ref<|c.cls 9) (br iC)=some none
 rq:ji c.K (.ref<|c.cls 9) "__init__"=some (some<|.ref<|c.ue 9000)/\typeIn c.K (.ref<|c.ue 9000)=some (.type "function")
section
variable{c:Cx}{A:eX}{RE:ak->af->Prop}
theorem vU.cls(X:vU c):clsIn c.K (c.cls 9)=some (aeP<|c.cls 9):=by unfold clsIn;rw[X.obj]
theorem vU.mro(X:vU c)(h:Ma.contains v=true):mroIn c.K (c.cls 9) v=some true:=by
 unfold mroIn
 rw[X.cls,Option.bind_some,aN (by show ¬(false=true);decide),nZ,h,Y3]
theorem Uh{Q:Ah->af->Prop}(X:vU c)(K:c.K.In s.heap)(hx:s.heap.get? x=some {cls:=.ref<|c.cls 9,data:=.fields fs})
  (h: ∀h' tk dx mm,h'.get? x=some {cls:=.ref<|c.cls 9,dict:=some dx,data:=.fields fs}->j6 h' dx mm 1->mm (br iC)=some v->s.heap.get? dx=none->(∀b o,b≠x->s.heap.get? b=some o->h'.get? b=some o)->Q () {s with heap:=h',toks:=tk}):
  wpAny (model c.prog c.w) A (setAttr (.ref x) (br iC) v) Q RE s:=by
 have hc:=X.cls
 have I:WJ s.heap x {cls:=.ref<|c.cls 9,data:=.fields fs} (c.cls 9) none:=⟨hx,rfl,rfl,trivial⟩
 refine set_plain K I X.C5 ?_
 have SF:=PySem.F.store_object
 generalize hs1:({s with toks:=s.toks+1}:af)=s1
 have hh1:s1.heap=s.heap:=by rw[←hs1]
 rw[←hh1]at K hx I
 have hm:No (model c.prog c.w) s1.heap (mroOf<|.ref<|c.cls 9) (.ref (c.cls 9)::Ma):=(S6 K hc).andThen .now
 have sub':No (model c.prog c.w) s1.heap (GU (.ref x)<|.type "object") true:=I.type.andThen<|looks_mroIn K<|X.mro aaY
 refine S3 SF.slot.plain SF.entry<|@check_slot (model c.prog c.w) _ _ s1 "object.__setattr__" "object" "__setattr__" (.ref x) [.str (br iC) s.toks,v] [] _ SF.kind SF.split sub' (SF.args (.ref x) (.str (br iC) s.toks) v) ?_
 refine bN (eA.mp X.aa0) λattr h9=>cK h9 λha hr=>?_
 have L3:No (model c.prog c.w) s1.heap (storeTaker? attr) none:=by
  cases attr with
  |none=>exact .now
  |some a=>
   refine bN (qu.mp hr) λb h9=>cK h9 λhb hbb=>?_
   refine(looks_takesIn K hb).andThen ?_
   cases b
   ·exact .now
   ·cases hbb
 rw[osa_eq,refuse_eq]
 refine ac<|ac<|I.type.here<|ac<|hm.here ?_
 rw[refuseLoop_ref,aaZ]
 refine aD<|ac<|I.type.here<|ac<|(tg K ha).here<|ac<|L3.here ?_
 show wpAny _ _ (storeInOwnDict (.ref x) (.ref<|c.cls 9) (.str (br iC) s.toks) (br iC) v _) _ _ _
 refine ac<|aD<|ac<|ac<|GO hx<|ac<|(S6 K hc).here ?_
 show wpAny _ _ (do
   let d ←alloc {cls:=.type "dict",data:=.dict #[]}
   update x λo=>{o with dict:=some d}
   (pure (some d):xt (ag az))) _ _ _
 refine ac<|wpAny_alloc ?_
 have hx2:(s1.heap.push {cls:=.type "dict",data:=.dict #[]}).get? x=some {cls:=.ref<|c.cls 9,data:=.fields fs}:=aA _ hx
 refine ac<|wpAny_update hx2<|aD ?_
 show wpAny _ _ (do nsSet s1.heap.objs.size (br iC) v;mN s1.heap.objs.size (some<|.str (br iC) 0);ret .none) _ _ _
 have e:(do nsSet s1.heap.objs.size (br iC) v;mN s1.heap.objs.size (some<|.str (br iC) 0);ret .none:xt nA)=((do nsSet s1.heap.objs.size (br iC) v;mN s1.heap.objs.size (some<|.str (br iC) 0))>>=λU=>ret .none):=by rw[bind_assoc]
 refine aK e ?_
 have hne:x≠s1.heap.objs.size:=q8<|d5 hx
 have hdx:((s1.heap.push {cls:=.type "dict",data:=.dict #[]}).update x λo=>{o with dict:=some s1.heap.objs.size}).get? s1.heap.objs.size=some {cls:=.type "dict",data:=.dict #[]}:=by
  rw[il _ _ hne];exact aR _ rfl
 have hxx:((s1.heap.push {cls:=.type "dict",data:=.dict #[]}).update x λo=>{o with dict:=some s1.heap.objs.size}).get? x=some {cls:=.ref<|c.cls 9,dict:=some s1.heap.objs.size,data:=.fields fs}:=by
  exact aK (cI _ hx2 rfl) rfl
 have O0:j6 ((s1.heap.push {cls:=.type "dict",data:=.dict #[]}).update x λo=>{o with dict:=some s1.heap.objs.size}) s1.heap.objs.size (λU=>none) 0:=⟨_,#[],0,hdx,rfl,λe he=>by simp at he,λU=>rfl,bK _,⟨rfl,rfl,rfl⟩⟩
 subst hs1
 refine ac<|JJ O0 (by decide) λh' o' sb=>aD ?_
 refine h h' _ _ _ ((sb.2 x hne).trans hxx) o' (aJ rfl) (bL _) λb o hb e=>?_
 have hbD:b≠s.heap.objs.size:=q8<|d5 e
 refine(sb.2 b hbD).trans ?_
 refine aK (il _ _<|Jh hb) ?_
 exact aA _ e
end
section
variable{prog:pg}{w:World}{A:eX}{E:ak->af->Prop}{h:cy}{g:pZ GenState}{d:Drawn}{t:av}{os:OsState}
variable{C:az}{bmB:aa ak}{B initId:String}{R:tq->af->Prop}
theorem AG(Fn:ExcBaseFacts B "Exception.__new__" initId bmB)(T:OwnTail h bmB Ma){Q:nA->af->Prop}
  (hC:h.get? C=some (Mb C)) (hi:No (model prog w) h (typeLookup (.ref C) "__init__") (some rq)) (hb: ∀j8,No (model prog w) h (bindSpecial rq j8) (rq,[j8]))
  (hq:cW (model prog w) A (.call rq ⟨.ref (h.objs.size+1)::rest,[]⟩) (λr s'=>match r with|.ok (.ret v)=>v=.none/\Q (.done (.ret (.ref (h.objs.size+1)))) s'|.ok _=>cC|.error e=>E e s')
   ⟨(h.push {cls:=.type "tuple",data:=.seq rest.toArray}).push {cls:=.ref C,data:=.fields #[.ref h.objs.size,.none,.none,.none,.bool false,.none]},g,d,t,os⟩) (hrest:rest.length<=GR):
  wpAny (model prog w) A (GG.«type.__call__» ⟨.ref C::rest,[]⟩) Q E ⟨h,g,d,t,os⟩:=by
 repeat (first|with_reducible refine lN hC ?_|with_reducible refine wpAny_madeBy_exc hC ?_|wp_step)
 refine codeAny_call_builtin_code (Nt _ Fn.quiet)<|wpAny_check_new_subU Fn Fn.hasB T hC ?_
 refine codeAny_exc_new_subU Fn Fn.hasB Fn T hC ?_ hrest
 show wpAny _ _ _ _ _ _
 have aa1:=aA {cls:=.ref C,data:=.fields #[.ref h.objs.size,.none,.none,.none,.bool false,.none]}
  (aA {cls:=.type "tuple",data:=.seq rest.toArray} hC)
 have k: ∀b o,h.get? b=some o->((h.push {cls:=.type "tuple",data:=.seq rest.toArray}).push {cls:=.ref C,data:=.fields #[.ref h.objs.size,.none,.none,.none,.bool false,.none]}).get? b=some o:=
  λb o e=>aA _<|aA _ e
 have hget:((h.push {cls:=.type "tuple",data:=.seq rest.toArray}).push
   {cls:=.ref C,data:=.fields #[.ref h.objs.size,.none,.none,.none,.bool false,.none]}).get? (h.objs.size+1)=some
   {cls:=.ref C,data:=.fields #[.ref h.objs.size,.none,.none,.none,.bool false,.none]}:=by heap_get
 have i1:=hi.keeps k
 have b1:=(hb<|.ref<|h.objs.size+1).keeps k
 unfold GU
 repeat (first|with_reducible refine lN hget ?_|(with_reducible refine Vy aa1 ?_;rw[(by simp:(gE C::Ma).contains (.ref C)=true)])|wp_step)
 refine i1.here ?_
 refine dA<|ac<|b1.here ?_
 refine ac<|tc<|lQ hq λr s' z=>?_
 rcases r with e|(v|_|_|_)<;>first|exact z|exact z.elim|skip
 obtain⟨rfl,z⟩:=z
 exact aD<|aD z
theorem PK(Fn:ExcBaseFacts B "Exception.__new__" initId bmB)(T:OwnTail h bmB Ma)
  (hC:h.get? C=some (Mb C)) (hi:No (model prog w) h (typeLookup (.ref C) "__init__") (some rq)) (hb: ∀j8,No (model prog w) h (bindSpecial rq j8) (rq,[j8]))
  (hq:cW (model prog w) (A.under (.builtin "type.__call__" ⟨.ref C::rest,[]⟩)) (.call rq ⟨.ref (h.objs.size+1)::rest,[]⟩) (λr s'=>match r with|.ok (.ret v)=>v=.none/\R (.ok (.ret (.ref (h.objs.size+1)))) s'|.ok _=>cC|.error e=>R (.error e) s')
   ⟨(h.push {cls:=.type "tuple",data:=.seq rest.toArray}).push {cls:=.ref C,data:=.fields #[.ref h.objs.size,.none,.none,.none,.bool false,.none]},g,d,t,os⟩) (hrest:rest.length<=GR):
  cW (model prog w) A (.call (.ref C) ⟨rest,[]⟩) R ⟨h,g,d,t,os⟩:=by
 have f1:=tc_lookup
 have f2:=tc_bind<|.ref C
 have hT:(⟨h,g,d,t,os⟩:af).TypeIs (.ref C) "type":=⟨_,hC,rfl⟩
 refine acj ?_
 show wpAny _ _ (callAny (.ref C) _) _ _ _
 repeat (any_goals (first|assumption|with_reducible refine lN hC ?_|wp_step))
 refine⟨rfl,?_⟩
 exact codeAny_call_builtin_at (Nt _ (by decide+kernel)) entry_typeCall<|wpAny_check_type_call_sub hC<|AG Fn T hC hi hb hq hrest
end
end
section
variable{M:Model}{A:eX}{E:ak->af->Prop}{au:tx}
variable{C:az}
inductive Wg(C:az)(E:ak->af->Prop)(v:ak)(s₁:af):Prop
 |mk {e t dx} (hv:v=.ref e) (hC:s₁.heap.get? C=some (Mb C)) (he:s₁.heap.get? e=some {cls:=.ref C,dict:=some dx,data:=.fields #[.ref t,.none,.none,.none,.bool false,.none]}) (hE:E (.ref e) s₁)
theorem HW{Q:Ta->af->Prop}(hh:A.handled=none)
  (h:wpAny M A x (Wg C E) E s):
  wpAny M A (raiseStmt au (some x) none) Q E s:=by
 unfold raiseStmt
 refine ac<|aq h (λv s₁ h₁=>?_) λU U x=>x
 obtain⟨XU,hC,he,hE⟩:=h₁
 refine aK XU ?_
 obtain⟨hp,g,d,tk,os⟩:=s₁
 repeat (first|with_reducible refine lN he ?_|with_reducible refine lN hC ?_|(with_reducible refine Vy hC ?_;rw[(by rw[nZ,PJ,Y3]:(gE C::Ma).contains (.type "BaseException")=true)])|wp_step)
 exact wpAny_raiseNew_none hh hE
end
noncomputable def gd:aa Nat:=[115,101,108,102]
inductive yM(c:Cx):Prop
 |mk {fd o p1 p2 p3 p4} (hK:c.K.lookup (c.ue 9000)=some o) (hd:o.data=.func fd) (hcd:c.cV.CodeRec fd.code fd.qualname)
  (D:yL fd [br gd,br iC] [some<|br gd,some<|br iC] [.Assign [.Attribute (.Name (br gd) p1) (br iC) p2] (.Name (br iC) p3) p4])
  (hl1:fd.scope.names.lookup (br gd)=some .local) (hl2:fd.scope.names.lookup (br iC)=some .local)
  (hbind: ∀(s:af) (vals:aa ak),c.K.In s.heap->vals.length=2->qW s fd ⟨vals,[]⟩ ([br gd,br iC].zip vals))
section
variable{F:Fx}{H:az->Prop}{P:Pt}{r r1:Rw}{s s1:af}{RE:ak->af->Prop}
theorem C9{Q:ak->af->Prop}(O:F.c.Ok)(X:vU F.c)(XI:yM F.c)(C:Cl F H r s)(hlv:2<=F.lv)
  (hQ: ∀h' tk e dx mm ta,(∀b o,s.heap.get? b=some o->h'.get? b=some o)->s.heap.get? e=none->s.heap.get? dx=none->dx≠e->h'.get? e=some {cls:=.ref (F.c.cls 9),dict:=some dx,data:=.fields #[.ref ta,.none,.none,.none,.bool false,.none]}->
   j6 h' dx mm 1->(∃t,mm (br iC)=some (.str (br m) t))->Q (.ref e) {s with heap:=h',toks:=tk}):wpAny F.M F.A (bS (.ref (F.c.cls 9)) [.str (br m) t]) Q RE s:=by
 obtain @⟨fd,_,_,_,_,_,hK,hd,hcd,D,hl1,hl2,hbind⟩:=XI
 have K:=C.wd.K O
 obtain⟨hh,g,d,tk,os⟩:=s
 refine tc<|PK PySem.F.excBase_Exception (X.tail.keeps λb o e=>C.wd.cV b o e) (K _ _ X.obj) (tg K X.rq.1) (λj8=>bind_fn K j8 X.rq.2) ?_<|dD (by simp)
 have k2: ∀b o,hh.get? b=some o->((hh.push {cls:=.type "tuple",data:=.seq [pW (br m) t].toArray}).push {cls:=.ref<|F.c.cls 9,data:=.fields #[.ref hh.objs.size,.none,.none,.none,.bool false,.none]}).get? b=some o:=
  λb o e=>aA _<|aA _ e
 have hget:((hh.push {cls:=.type "tuple",data:=.seq [pW (br m) t].toArray}).push {cls:=.ref<|F.c.cls 9,data:=.fields #[.ref hh.objs.size,.none,.none,.none,.bool false,.none]}).get? (hh.objs.size+1)=some {cls:=.ref<|F.c.cls 9,data:=.fields #[.ref hh.objs.size,.none,.none,.none,.bool false,.none]}:=by
  rw[←gl (h:=hh) (o:={cls:=.type "tuple",data:=.seq [pW (br m) t].toArray})];exact aR _ rfl
 have N9:hh.get? (hh.objs.size+1)=none:=qe hh
 generalize (hh.push {cls:=.type "tuple",data:=.seq [pW (br m) t].toArray}).push {cls:=.ref<|F.c.cls 9,data:=.fields #[.ref hh.objs.size,.none,.none,.none,.bool false,.none]}=h0 at k2 hget ⊢
 have T0:gc F r ⟨hh,g,d,tk,os⟩ ⟨h0,g,d,tk,os⟩:=.gr C.wd<|.Lw (tk:=tk) _ k2
 refine mJ (F:={F with A:=F.A.under (.builtin "type.__call__" ⟨.ref (F.c.cls 9)::[.str (br m) t],[]⟩),lv:=1}) (H:=H) (r:=r) (vs:=[.ref (hh.objs.size+1),.str (br m) t]) O D hK hd hcd (λs k=>hbind s _ k rfl) rfl ⟨T0.wd,(C.er.kp T0.kp λb m=>(C.er.apart b m).2.2).aad (F.c.cls 9) _ hlv,C.hx,λb q=>by
  obtain⟨o,e⟩:=C.iu b q
  exact⟨o,k2 b o e⟩⟩ λau h1 uH En=>?_
 have kL: ∀y,au.kindOf y=fd.scope.names.lookup y:=λy=>by unfold vl;rw[En.of.sc]
 obtain⟨mm0,hn0,hm0⟩:=En.ev.ns
 have e0:=hm0 0 (br gd) (.ref<|hh.objs.size+1) rfl rfl<|(kL _).trans hl1
 refine iq<|ml (kR (nH En.ev.kind ((kL _).trans hl2) hn0 (hm0 1 (br iC) (.str (br m) t) rfl rfl<|(kL _).trans hl2)<|kR (nH En.ev.kind ((kL _).trans hl1) hn0 e0 ?_) (by decide+kernel)) (by decide+kernel)) rfl
 refine Uh X ((T0.wd.all En.keep (tk:=uH)).K O) (En.keep _ _ hget) λh' tk' dx mm hx ow hm ndx kp=>iW ⟨rfl,?_⟩
 refine hQ h' tk' _ dx mm _ (λb o e=>kp b o (λz=>by rw[z]at e;exact nn<|N9.symm.trans e)<|En.keep b o<|k2 b o e) N9 (T0.kp.dp<|En.no ndx) (λz=>?_) hx ow ⟨_,hm⟩
 subst z
 exact nn<|(En.no ndx).symm.trans hget
end
section
variable{Z:Zs}{O:av->aa az}{x:Dl->Rw->bc DV}
theorem T.aa3(O1:Z.F.c.Ok)(XC:vU Z.F.c)(XI:yM Z.F.c)(hx:X=Z.F.c.fY 9)(hk:gp Z.F.au X=true)(hst:[e].all cD=true)(hlv:2<=Z.F.lv)(h:SE Z.F e x):
  T Z (exec (.Raise (some<|.Call (.Name X np) [e] [] cpos) none pos) Z.F.au) (λδ r=>(x (b4 δ) r).fZ λd r=>dO d.fH λm=>.c m r):=λO vs δ r s K V q=>by
 subst hx
 rw[arm_exec_Raise]
 refine ac<|gq<|HW (C:=Z.F.c.cls 9) V.g.er.handled<|ac<|aq (Q:=Wg (Z.F.c.cls 9)<|xJ Z O s K.E) ?_ (λv s1 z=>ac<|gq<|aD z) λU U z=>z
 refine cR<|jM O1 V.g hk XC.name<|jk hst (V.g.wd.K O1) (.inr<|.inr XC.keep)<|bP (da<|aF.mp hst e<|.head _)<|V.Pg h (eY q) λv d s1 r1 D T1 q=>eu ⟨T1.wd.K O1,?_⟩
 refine aU λG9 k9=>?_
 obtain⟨m,em,q⟩:=ft q
 obtain⟨t,hv,_⟩:=D.fH em
 refine k9 ?_
 refine aK hv ?_
 have V1:=V.kG T1
 refine C9 O1 XC XI V1.g.cl hlv λh' tk e dx mm ta kp ne nd hne hxe ow hm=>⟨rfl,kp _ _<|T1.wd.K O1 _ _ XC.obj,hxe,?_⟩
 have T2:gc Z.F r1 s1 {s1 with heap:=h',toks:=tk}:=.gr T1.wd<|.Lw s1 kp
 exact⟨rfl,⟨T1.kp.dp ne,hxe,ow,T1.kp.dp nd,hne,hm,rfl,.l9⟩,.of<|T1.seq T2,q,λL e=>(nomatch e),(V1.kG T2).g.er.cE⟩
end
section
variable{c:Cx}{A:eX}{RE:ak->af->Prop}
theorem Ui{Q:ak->af->Prop}(X:vU c)(K:c.K.In s.heap)(hx:s.heap.get? x=some {cls:=.ref<|c.cls 9,dict:=some dx,data:=.fields fs})
  (ow:j6 s.heap dx mm 1) (hm:mm (br iC)=some v) (hh:S7 v=true) (h:Q v {s with toks:=s.toks+1}):wpAny (model c.prog c.w) A (te (.ref x) (br iC) expr) Q RE s:=by
 refine aU λG9 k9=>?_
 obtain⟨od,es,ep,hd,Hn,W6,hfind,_,_⟩:=ow
 have I:WJ s.heap x {cls:=.ref<|c.cls 9,dict:=some dx,data:=.fields fs} (c.cls 9) (some od):=⟨hx,rfl,rfl,hd⟩
 have hdict:Nl c.K (c.cls 9)=true:=by unfold Nl;rw[X.cls];rfl
 obtain⟨hp,g,d,t,os⟩:=s
 refine k9 ?_
 have L0:=I.type (M:=model c.prog c.w)
 have L1:=tg (M:=model c.prog c.w) K X.ga
 have L2:=tg (M:=model c.prog c.w) K X.XT
 have L3:=looks_find (M:=model c.prog c.w) K I<|S8 (attr:=none) hdict X.plain rfl (v:=v) (by rw[rZ Hn W6 hfind,hm])
 have L4:No (model c.prog c.w) hp (GU (.ref x)<|.type "BaseException") true:=L0.andThen<|looks_mroIn K<|X.mro PJ
 have f3:=Cj.ga.bind<|.ref x
 have hx0:(expr&&Zu (pf "BaseException.__getattribute__"))=false:=by cases expr<;>rfl
 have Y9:(Zu (gE<|c.cls 9)&&pf "BaseException.__getattribute__"==pf "object.__getattribute__")=false:=by rw[show(pf "BaseException.__getattribute__"==pf "object.__getattribute__")=false by decide+kernel];rfl
 unfold te getAttrBy
 refine ac<|s9<|dA<|ac (L0.at (ac (L1.at ?_)))
 dsimp only
 refine aK Y9 ?_
 unfold getAttrByItsOwn hookBefore
 refine aK (aN (by decide))<|aK (aJ (show Zu (gE<|c.cls 9)=true from rfl)) ?_
 refine ac (L2.at (ac<|K5<|dA ?_))
 unfold callGetattribute
 refine aK hx0<|aK (aN (by decide)) ?_
 unfold boundAndCalled
 have hk:builtinKind "BaseException.__getattribute__"=some .slot:=by decide+kernel
 have ha:=F.args_bexc_ga (.ref x)<|.str (br iC) t
 refine ac<|SX f3<|tc<|S3 Cj.ga.plain F.entry_bexc_ga ?_
 refine @check_slot (model c.prog c.w) _ _ ⟨hp,g,d,t+1,os⟩ "BaseException.__getattribute__" "BaseException" "__getattribute__" (.ref x) [.str (br iC) t] [] _ hk (by decide+kernel:splitId "BaseException.__getattribute__"=some ("BaseException","__getattribute__")) L4 ha ?_
 refine ac<|aD<|ac<|aD<|ac (L0.at (ac (L3.at ?_)))
 refine aD ?_
 show wpAny _ _ (handedOut v) _ _ _
 refine aK (handedOut_of hh) ?_
 exact aD h
end
theorem Uj{Q:aM->af->Prop}{RE:ak->af->Prop}(hC:s.heap.get? C=some (Mb C))(hx:s.heap.get? x=some {cls:=.ref C,dict:=some dx,data:=.fields vs})(q:Q true s):
  wpAny (model prog w) A' (excMatches (.ref x)<|.ref C) Q RE s:=by
 obtain⟨hh,g,d,tk,os⟩:=s
 exact wpAny_excMatches_sub_self hC hx rfl PJ q
section
variable{Z:Zs}{us:aa (ag ak)}{δ:Sl}{r:Rw}{s:af}{K:SK}{RE:ak->af->Prop}
theorem Uk(O1:Z.F.c.Ok)(XC:vU Z.F.c)(H:sH Z.F)(hx:rx=Z.F.c.fY 9)(hk:gp Z.F.au rx=true)(hn:Z.F.au.kindOf n=some .local)(hnd:(n==("__debug__":b9))=false)(V:eK Z O0 us δ r s)
  (h:wpAny Z.F.M Z.F.A (eval e Z.F.au) (PV Z.F (VD Z.F.c<|H1 Z) s K.R) (PX Z.F s λm r=>m.length<=9999/\K.R (.d m) r) s):
  wpAny Z.F.M Z.F.A (exec (.Try [.Return (some e) rp] [.ExceptHandler (some<|.Name rx np) (some n) [.Return (some<|.Attribute (.Name n xI) (br iC) ap) rp2] hpos] [] [] pos) Z.F.au) (λf s'=> ∃v,f=.ret v/\HQ Z O0 s K v s') RE s:=by
 subst hx
 refine aU λG9 k9=>?_
 refine bN H.du λol hen=>?_
 refine bN H.frame λL hf=>?_
 refine k9 ?_
 have hp:(Z.F.au.scope.kind==.class||(Z.F.au.scope.kind==.module&&Z.F.au.locals !=Z.F.au.globals))=false:=by rw[V.g.ev.kind];rfl
 have A0:=V.Pj
 refine wpAny_Try_except<|iq<|jq<|aq h (λv s1 p=>?_) λxv s1 p=>?_
 ·obtain⟨D,T,q⟩:=p
  exact⟨v,rfl,.val D (.of T) q⟩
 ·obtain⟨rfl,X,T,q,hd⟩:=p
  refine C3 (X:=Xe Z.F.c) (E:=λm r=>m.length<=9999/\K.R (.d m) r) hen hf A0 ⟨X,⟨T.wd,T.kp,T.same⟩,q,(V.kG T).g.er.cE⟩ hd λh1 F1=>ki (V8:=none) A0 F1 λh2 F2=>?_
  obtain⟨Zf⟩:=id F2
  have G2:=V.kG ⟨Zf.T.wd,Zf.T.kp,Zf.T.same⟩
  refine wpAny_handleBy_cons (codeAny_handlers_test<|nM G2.g.ev.kind (pv hk).1 (Eh (by rw[G2.g.ev.globals];exact O1.g.keeps Zf.T.wd.cV) (mg_of O1.K O1.g XC.name) ?_) (pv hk).2) (by intro z;cases z)
  refine Uj (s:={s1 with heap:=h2}) (Zf.T.wd.K O1 _ _ XC.obj) Zf.X'.obj ?_
  refine codeAny_handlers_suite_as<|ki (V8:=none) A0 F2 λh3 F3=>?_
  refine aU λG9 k9=>?_
  obtain⟨Wh⟩:=F3
  have V3:=V.kG ⟨Wh.T.wd,Wh.T.kp,Wh.T.same⟩
  refine bN V3.g.ev.ns λm0 h9=>cK h9 λhn0 U=>?_
  refine k9 ?_
  refine ug hn hn0 (λh4 hn4 sb4=>?_) hp
  refine aU λG9 k9=>?_
  obtain⟨VK,hxo,how,hdl,hdx,⟨tv,hmm⟩,_,_⟩:=Wh.X'
  refine k9 ?_
  have hl:=V.g.iu _ (V.g.ic _<|.inl rfl).1
  have neX:_≠Z.F.au.locals:=λz=>by
   refine bN hl λo e=>?_
   exact nn<|VK.symm.trans<|z▸e
  have neD:_≠Z.F.au.locals:=λz=>by
   refine bN hl λo e=>?_
   exact nn<|hdl.symm.trans<|z▸e
  have ic:=V3.g.ic _<|.inl rfl
  have Bt: ∃o,h3.get? Z.F.au.locals=some o/\ ¬eJ o:=by
   refine aU λG9 k9=>?_
   refine A9 hn0 λo es ep h9=>n7 h9 λe hd U=>?_
   refine k9 ?_
   exact⟨o,e,mr λvs z=>by rw[hd]at z;exact absurd z (by simp)⟩
  refine aU λG9 k9=>?_
  refine bN Bt λoL h9=>cK h9 λeL nL=>?_
  refine k9 ?_
  have W4:Wd Z.F.c _ {s1 with heap:=h4,toks:=s1.toks+1}:=V3.g.wd.mG sb4 eL nL ic.2.1 ic.2.2
  refine iq<|jq<|G5 (kR (nH V.g.ev.kind hn hn4 (aJ rfl) ?_) hnd) (by rfl)
  refine Ui XC (W4.K O1) ((sb4.2 _ neX).trans hxo) (how.keep λo e=>(sb4.2 _ neD).trans e) hmm rfl ?_
  refine ac<|GP<|ug hn hn4 (λh5 hn5 sb5=>?_) hp
  refine q5<|wpAny_unbindName_local hn hn5 (v:=.none) (aJ rfl) hp λh6 u hn6 sb6=>?_
  have sb:bj Z.F.au.locals h3 h6:=(sb4.trans sb5).trans sb6
  have is6: ∃o,h6.get? Z.F.au.locals=some o:=by
   refine aU λG9 k9=>?_
   refine A9 hn6 λo U U h9=>cK h9 λe U=>?_
   refine k9 ?_
   exact⟨o,e⟩
  exact⟨_,rfl,.val (.str _ _ Wh.q.1) ⟨V3.g.wd.mG sb eL nL ic.2.1 ic.2.2,(Wh.T.kp.yf λU=>.inl).seq<|.mG sb is6<|.inr<|.inl<|.inl rfl,df Wh.T.same ⟨_,_,rfl⟩⟩ Wh.q.2⟩
end
theorem XV:mO pos (.int v1 t1::.int v2 t2::x::rest)=if(v1==pos.line&&v2==pos.col)=true then some x else mO pos rest:=rfl
theorem yN(l:aa ak)(h:Np l):mO pos (l++[dZ a,dZ b,cc])=some cv->mO pos l=some cv\/cv=cc:=by
 fun_induction Np l with
 |case1=>
  intro e
  simp only[fO,dZ,mO]at e
  split at e
  ·cases e;exact .inr rfl
  ·cases e
 |case2 a' t b' u x rest ih=>
  intro e
  simp only[SA,mO]at e ⊢
  split at e
  ·rename_i hc;rw[aJ hc];exact .inl e
  ·rename_i hc;rw[aN hc];exact ih h e
 |case3 l h1 h2=>exact h.elim
structure Fb(c:Cx):Prop where
 head:CodeHd c.cV c.code c.wE
 bmain:c.cV.BuiltinsAt c.mg c.wE
 ne:cf≠c.wE
 wE:c.cV.get? c.wE=none
noncomputable def tX:Arguments:={posonlyargs:=[],args:=[],vararg:=none,kwonlyargs:=[],kw_defaults:=[],kwarg:=none,defaults:=[]}
inductive PL(c:Cx)(body:aX)(fz:jB)(cl:aa (b9×az))(s':af)(f:az):Prop
 |mk {b pm ctv o vs t} (hf:s'.heap.get? f=some {cls:=.type "function",data:=.func (kla_fn "<lambda>" c.nP tX body fz cl pm (.ref b) ctv)}) (hb:s'.heap.get? b=some o) (hd:o.data=.fields vs) (hv:vs[1]?=some (.str c.nP t))
section
variable{F:Fx}{P:Pt}{r:Rw}{s:af}{RE:ak->af->Prop}
theorem XW(Lk:Fb F.c)(W:Wd F.c r s)(hP:s.heap.get? F.c.wE=some (tabObj ps))(ht:Np ps.toList)(Db: ∀pos cv,mO pos ps.toList=some cv->s.heap.CodeRec cv F.c.nP)
  (kx: ∀b o,b≠F.c.wE->s.heap.get? b=some o->h'.get? b=some o) (hrec:h'.CodeRec (.ref c') F.c.nP) (htab:h'.get? F.c.wE=some (tabObj<|ps++ #[dZ l1,dZ l2,.ref c'])):gc F r s {s with heap:=h',toks:=tk}:=by
 have keep: ∀b o,(∀vs,o.data≠.fields vs)->s.heap.get? b=some o->h'.get? b=some o:=λb o n e=>kx b o (λz=>by
  subst z
  cases hP.symm.trans e
  exact n _ rfl) e
 refine⟨⟨?_,λb o e=>kx b o (λz=>by rw[z]at e;exact nn<|Lk.wE.symm.trans e)<|W.cV b o e,λa ha=>?_,⟨_,htab,?_,λpos cv e=>?_⟩⟩,⟨λb o e=>?_,λb o e n U=>kx b o (λz=>n<|.inr z) e,λb o e n U=>⟨o.slots,kx b o (λz=>n<|.inr z) e⟩⟩,⟨_,_,rfl⟩⟩
 ·refine jK W.same λh t e=>?_
  exact⟨h',tk,by rw[e]⟩
 ·obtain⟨h1,h2,n,vs,e,x⟩:=W.row a ha
  exact⟨h1,h2,n,vs,keep a _ (by simp) e,yg x⟩
 ·have:=TriplesOk_snoc l1 l2 (.ref c') ps.toList ht
  rwa [Jq]
 ·rw[Jq]at e
  rcases yN ps.toList ht e with e|rfl
  ·refine Y5 (Db pos cv e) λb o vs t h9=>ZB h9 λe1 e2 e4 e5=>?_
   refine⟨b,o,vs,t,e1,kx b o (λz=>?_) e2,e4,e5⟩
   subst z
   cases hP.symm.trans e2
   cases e4
   exact triples_no_str ht _ _ (by rw[GJ];exact e5)
  ·exact hrec
 ·by_cases z:b=F.c.wE
  ·exact⟨_,z▸htab⟩
  ·exact⟨o,kx b o z e⟩
theorem PM{Q:ak->af->Prop}(O:F.c.Ok)(Lk:Fb F.c)(G:Gd F P r s)(hcode:F.au.code=.ref F.c.code)(hq:F.au.qual++"<lambda>"=F.c.nP)(cs:rh F.au fz cl)
  (hQ: ∀s' f,PL F.c body fz cl s' f->s.heap.get? f=none->gc F r s s'->Q (.ref f) s'):wpAny F.M F.A (eval (.Lambda tX body fz PN) F.au) Q RE s:=by
 rw[arm_eval_Lambda]
 show wpAny _ _ (do
  let dv ←(pure []:xt (aa ak))
  let kdv ←jr dv (pure []:xt (aa<|ag ak))
  makeFunction "<lambda>" (F.au.qual++"<lambda>") tX (.expr body) fz F.au dv kdv [] PN PN.line) _ _ _
 refine ac<|aD<|ac<|dA<|aD ?_
 refine aK hq ?_
 refine aU λG9 k9=>?_
 refine bN G.wd.wE λps h9=>n7 h9 λhP ht Db=>?_
 refine k9 ?_
 have hg:s.heap.Ns cf F.c.mg:=O.g.keeps G.wd.cV
 have C:CodeHd s.heap F.c.code F.c.wE:=Lk.head.keeps G.wd.cV
 have hb:s.heap.BuiltinsAt F.c.mg F.c.wE:=Lk.bmain.keeps G.wd.cV
 have new: ∀{h':cy},s.heap.objs.size<=h'.objs.size->s.heap.get? h'.objs.size=none:=λ{h'} hsz=>by
  cases e:s.heap.get? h'.objs.size with
  |none=>rfl
  |some o=>exact absurd (eE (d5 e) hsz)<|pY _
 cases hcm:mO PN ps.toList with
 |some cv=>
  obtain⟨b,o,vs,t,rfl,e2,e4,e5⟩:=Db PN cv hcm
  refine kla_makeFunctionHit cs.eq G.ev.globals hg hcode C hP ht hcm hb λctv h' tk k hsz=>?_
  exact hQ _ _ ⟨aR _ rfl,aA _<|k _ _ e2,e4,e5⟩ (new hsz)<|.gr G.wd<|.Lw s λb o e=>aA _<|k b o e
 |none=>
  refine kla_makeFunction cs.eq G.ev.globals hg hcode C hP ht hcm Lk.ne hb λc' ctv h' tk hx hge hlt hrec htab=>?_
  refine aU λG9 k9=>?_
  refine Y5 (id hrec) λc2 o vs t h9=>ZB h9 λe1 e2 e3 e4=>?_
  refine k9 ?_
  cases e1
  have up: ∀b o,h'.get? b=some o->(h'.push<|kla_obj "<lambda>" F.c.nP tX body fz cl ((F.c.mg "__name__").getD .none) c' ctv).get? b=some o:=λb o e=>aA _ e
  exact hQ _ _ ⟨aR _ rfl,up _ _ e2,e3,e4⟩ (new<|ao hge<|ju hlt)<|XW Lk G.wd hP ht Db (λb o n e=>up b o<|hx b o n e) ⟨_,o,vs,t,rfl,up _ _ e2,e3,e4⟩<|up _ _ htab
end
noncomputable def sO(Λ:aa (ag b9))(names:aa (b9×eB)):aa (ag b9):=Λ.map λo=>o.bind λn=>if names.lookup n=some .free then some n else none
theorem sh{Λ:aa (ag b9)}{names}{j:av}{y:b9}(h:(sO Λ names)[j]?=some (some y)):Λ[j]?=some (some y)/\names.lookup y=some .free:=by
 unfold sO at h
 replace h:=((bl)).symm.trans h
 cases e:Λ[j]? with
 |none=>rw[e]at h;exact nn h
 |some o=>
  replace h:=e▸h
  cases o with
  |none=>exact nn<|am h
  |some n=>
   have h:(if names.lookup n=some .free then some n else none)=some y:=am h
   by_cases z:names.lookup n=some .free
   ·replace h:=((aJ z)).symm.trans h
    cases h
    exact⟨rfl,z⟩
   ·replace h:=((aN z)).symm.trans h
    exact nn h
structure yO(au:tx)(scope:jB):Prop where
 free:vO scope.names au
 md:(scope.names.map<|λx=>x.1).Nodup
 oU: ∀y∈scope.names,y.2≠.cell
 kind:scope.kind=.function
 co:scope.isCoroutine=false
 gen:scope.isGenerator=false
theorem Ul{Λ vs}{h:cy}{au:tx}{scope:jB}{cl:aa (b9×az)}{L:az}{m:b9->ag ak}{qual:b9}{f:az}{code:ak}(V:iI au Λ vs h)(K:yO au scope)(cs:rh au scope cl)(hL:h.Ns L m):
  iI (Ce scope L cf cl qual (some f) code none hY) (sO Λ scope.names) vs h:=by
 have NC: ∀y,(Ce scope L cf cl qual (some f) code none hY).kindOf y=scope.names.lookup y:=λy=>rfl
 refine⟨K.kind,rfl,rfl,by unfold sO;rw[aw];exact V.cn,⟨m,hL,λj y v h1 h2 h3=>?_⟩,λj y v h1 h2 h3=>?_,λy h1=>?_,?_,λj k y h1 h2=>V.inj j k y (sh h1).1 (sh h2).1,λp hp=>V.SJ p<|cJ<|cs.of p hp⟩
 ·exact absurd ((sh h1).2.symm.trans<|(NC y).symm.trans h3) (by simp)
 ·obtain⟨h4,h5⟩:=sh h1
  obtain⟨ca,e1,e2⟩:=V.cell j y v h4 h2<|.inl<|K.free (y,.free) (cJ h5) rfl
  exact⟨ca,(cs.d9 y h5).trans e1,e2⟩
 ·exact absurd rfl<|K.oU _<|cJ<|(NC y).symm.trans h1
 ·have h1:cl.Pairwise λa b=>a.1≠b.1:=gK.mp cs.md
  exact vr (λha hb hne=>uC V.apart (cs.of _ ha) (cs.of _ hb) hne) h1
structure Wi(c:Cx)(Λ:aa (ag b9))(scope:jB)(fg:av)(F3:Fx):Prop where
 c:F3.c=c
 lv:F3.lv=fg
 sc:F3.au.scope=scope
 Λ:F3.Λ=sO Λ scope.names
theorem Gd.Pj(G:Gd F P r s):SM ⟨F,ex,sG⟩ s:=
 ⟨λb o e=>⟨o,G.wd.cV b o e⟩,λb x=>G.iu b (G.hx b x),λb m=>by
  refine bN (jL G.er.cE m) λo h9=>cK h9 λe U=>?_
  exact⟨⟨o,e⟩,(G.er.apart b m).2⟩,G.er.frames⟩
section
variable{F:Fx}{H:az->Prop}{r:Rw}{s:af}{E:aa av->Rw->Prop}{x:Dl->Rw->bc DV}
theorem Fc{X:az->Prop}(hf:au.frame=some L)(keep: ∀b o,s.heap.get? b=some o->h3.get? b=some o)(l9:s.heap.get? L=none)(k:Kp X (jU<|au::F.du) h3 h'):Kp X (jU F.du) s.heap h':=by
 rw[show jU (au::F.du)=L::jU F.du by unfold jU;rw[mS,hf]]at k
 refine⟨λb o e=>k.cE b o<|keep b o e,λb o e n f=>k.pq b o (keep b o e) n λm=>?_,λb o e n f=>k.NB b o (keep b o e) n<|.tail _ f⟩
 rcases a0.mp m with rfl|m
 ·exact nn<|l9.symm.trans e
 ·exact f m
theorem PO{body}{fz}{cl}{f}{fg}{PP}{ΛL}{vs}{δ}{Q}(O:F.c.Ok)(C:Cl F H r s)(hl:fg+1<=F.lv)(LA:PL F.c body fz cl s f)
  (VL:iI PP ΛL vs s.heap) (ic: ∀b,yi PP b->H b/\F.c.cV.get? b=none/\ ¬Xe F.c b) (K:yO PP fz) (cs:rh PP fz cl) (nB: ∀(i:av) d,fM δ i=some d-> ∃v,vs[i]?=some (some v)/\dm F.c H s.heap v d)
  (hE: ∀F3:Fx,Wi F.c ΛL fz fg F3->SE F3 body x) (q:(x δ r).wp Q E):cW F.M F.A (.call (.ref f) ⟨[],[]⟩) (Xp F s E<|PV F (VD F.c H) s Q) s:=by
 obtain @⟨cb,pm,ctv,o,us,t,hf,e1,e2,e3⟩:=LA
 refine kla_callFunE (aI (ao (c0 ..) C.er.depth) (by decide)) hf rfl K.co K.gen rfl ⟨cb,o,us,t,rfl,e1,e2,e3⟩ ?_
 refine SX (a:=[]) rfl ?_
 refine nG K.oU (by intro y hy;exact nomatch hy) (λh3 hn3 sb3=>⟨O.nolimit.keeps λx o e=>?_,kla_codeExpr ?_⟩) K.kind
 ·have:=C.wd.cV x o e
  exact(sb3.2 x<|q8<|d5 this).trans<|aA _ this
 have keep: ∀x o,s.heap.get? x=some o->h3.get? x=some o:=λx o e=>(sb3.2 x<|q8<|d5 e).trans<|aA _ e
 have l9:s.heap.get? s.heap.objs.size=none:=bL _
 show wpAny F.M (F.A.deeper<|Ce fz s.heap.objs.size cf cl (F.c.nP++".<locals>.") (some f) (.ref cb) none hY) (eval body<|Ce fz s.heap.objs.size cf cl (F.c.nP++".<locals>.") (some f) (.ref cb) none hY) _ _ _
 have V3:=Ul (qual:=F.c.nP++".<locals>.") (f:=f) (code:=.ref cb) (VL.keep λb U o e=>⟨o.slots,keep b o e⟩) K cs hn3
 have NA: ∀b,yi (Ce fz s.heap.objs.size cf cl (F.c.nP++".<locals>.") (some f) (.ref cb) none hY) b->b=s.heap.objs.size\/yi PP b:=λb l=>by
  rcases l with e|⟨p,hp,e⟩
  ·exact .inl e
  ·exact .inr<|.inr ⟨_,cJ<|cs.of p hp,e⟩
 have hsc:(Ce fz s.heap.objs.size cf cl (F.c.nP++".<locals>.") (some f) (.ref cb) none hY).scope=fz:=rfl
 have hframe:(Ce fz s.heap.objs.size cf cl (F.c.nP++".<locals>.") (some f) (.ref cb) none hY).frame=some s.heap.objs.size:=rfl
 generalize Ce fz s.heap.objs.size cf cl (F.c.nP++".<locals>.") (some f) (.ref cb) none hY=Mc at*
 have aeQ:jU (Mc::F.du)=s.heap.objs.size::jU F.du:=by unfold jU;rw[mS,hframe]
 have hL3: ∃o,h3.get? s.heap.objs.size=some o/\ ∀vs,o.data≠.fields vs:=by
  refine A9 hn3 λo es ep h9=>n7 h9 λe Hn U=>?_
  exact⟨o,e,λvs z=>by rw[Hn]at z;exact absurd z (by simp)⟩
 generalize htk:s.toks+([]:aa (b9×ak)).length=tk3
 have W3:Wd F.c r {s with heap:=h3,toks:=tk3}:=C.wd.all keep
 have fx:mF H s.heap h3:=.all keep
 have up:qR H (λb=>H b\/b=s.heap.objs.size) s.heap:=LQ H l9
 have G3:Gd (F.dw fg (sO ΛL fz.names) Mc) ⟨λb=>H b\/b=s.heap.objs.size,vs,δ⟩ r {s with heap:=h3,toks:=tk3}:=by
  refine⟨W3,⟨by show(F.A.frames.map (Mc:: ·))=_;rw[C.er.frames];rfl,⟨by rw[hsc,K.kind];decide,?_,iH (λL m o e d=>⟨o,keep L o e,d⟩) C.er.cE⟩,λb m=>?_,?_,?_,C.er.handled⟩,V3,λb l=>?_,λb x=>.inl<|C.hx b x,λb q=>?_,λi d e=>?_⟩
  ·refine bN hL3 λo h9=>cK h9 λe n=>?_
   exact⟨_,o,hframe,rfl,e,n⟩
  ·rw[show jU (Mc::F.du)=_ from aeQ]at m
   rcases a0.mp m with rfl|m
   ·exact⟨.inr rfl,C.wd.gb l9,C.wd.uu l9⟩
   ·exact⟨.inl (C.er.apart b m).1,(C.er.apart b m).2⟩
  ·have:=C.er.depth
   exact vy (by assumption) this (by decide)
  ·have:=C.er.units
   exact vy (by assumption) this (by decide)
  ·rcases NA b l with rfl|l
   ·exact⟨.inr rfl,C.wd.gb l9,C.wd.uu l9⟩
   ·exact⟨.inl (ic b l).1,(ic b l).2⟩
  ·rcases q with q|rfl
   ·refine bN (C.iu b q) λo e=>?_
    exact⟨o,keep b o e⟩
   ·refine bN hL3 λo h9=>cK h9 λe U=>?_
    exact⟨o,e⟩
  ·refine bN (nB i d e) λv h9=>cK h9 λe1 D=>?_
   exact⟨v,e1,D.aW fx up⟩
 refine aq (hE (F.dw fg (sO ΛL fz.names) Mc) ⟨rfl,rfl,hsc,rfl⟩ _ r _ _ E G3 q) (λv s' p=>?_) λe s' p=>?_
 ·obtain⟨D,T,q⟩:=p
  exact⟨v,rfl,D.aW (.cm _ _)<|.f9 λU=>.inl,⟨T.wd,Fc hframe keep l9 T.kp,df ⟨_,_,rfl⟩ T.same⟩,q⟩
 ·obtain⟨rfl,X,T,q,hd⟩:=p
  refine yI (Z:=⟨(F.dw fg (sO ΛL fz.names) Mc),λU=>cC,none⟩) (X:=Xe F.c) (E:=E) rfl hframe G3.Pj ⟨X,⟨T.wd,T.kp,T.same⟩,q,(G3.kG T).er.cE⟩ hd λh'' xL=>?_
  obtain⟨xL⟩:=xL
  exact⟨rfl,xL.X'.le λb e=>(by
   cases z:s.heap.get? b with
   |none=>rfl
   |some o=>exact nn (e.symm.trans (keep b o z))),⟨xL.T.wd,Fc hframe keep l9 xL.T.kp,df ⟨_,_,rfl⟩ xL.T.same⟩,xL.q,λL e=>nn (am e)⟩
end
noncomputable def AH:aa Nat:=[97,115,107]
noncomputable def HX:aa Nat:=[101,114,114,111,114]
noncomputable abbrev SO:aa (ag b9):=[some<|br AH,some<|br HX]
inductive HY(c:Cx)(kf:av):Prop
 |mk {fd o p1 p2 p3 p4 p5 p6 p7 p8 p9} (lt:kf<c.Cw) (hK:c.K.lookup (c.ue kf)=some o) (hd:o.data=.func fd) (hcd:c.cV.CodeRec fd.code fd.qualname)
  (D:yL fd [br AH] SO [.Try [.Return (some<|.Call (.Name (br AH) p1) [] [] p2) p3] [.ExceptHandler (some<|.Name (c.fY 9) p4) (some<|br HX) [.Return (some<|.Attribute (.Name (br HX) p5) (br iC) p6) p7] p8] [] [] p9])
  (hl1:fd.scope.names.lookup (br AH)=some .local) (hl2:fd.scope.names.lookup (br HX)=some .local) (hl9:fd.scope.names.lookup (c.fY 9)=some .globalImplicit) (hd9:(c.fY 9==("__debug__":b9))=false)
  (hbind: ∀(s:af) (vals:aa ak),c.K.In s.heap->vals.length=1->qW s fd ⟨vals,[]⟩ ([br AH].zip vals))
theorem Um(q:(EH x).wp Q E):x.wp Q λm r=>m.length<=9999/\Q (.d m) r:=by
 cases x with
 |c d r=>exact q
 |e m r=>
  obtain⟨e,q⟩:=bc.dU q
  exact⟨ah<|eh e,dT e▸q⟩
 |d=>exact q
section
variable{F:Fx}{x:Dl->Rw->bc DV}
theorem S.XX(O:F.c.Ok)(XC:vU F.c)(Lk:Fb F.c)(Kp:HY F.c kf)(hx:kx=F.c.iG kf)(hk:gp F.au kx=true)
  (hcode:F.au.code=.ref F.c.code) (hq:F.au.qual++"<lambda>"=F.c.nP) (hl:NF+2<=F.lv) (KS:yO F.au fz) (hE: ∀F3:Fx,Wi F.c F.Λ fz NF F3->SE F3 body x):
  SE F (.Call (.Name kx np) [.Lambda tX body fz PN] [] pos) (λδ r=>EH<|x δ r):=λP r s Q E G q=>by
 subst hx
 obtain⟨cl,cs⟩:=mH G.ev KS.free KS.md
 obtain @⟨fd,o,p1,p2,p3,p4,p5,p6,p7,p8,p9,lt,hK,Hn,hcd,D,hl1,hl2,hl9,hd9,hbind⟩:=Kp
 refine cR<|jM O G hk (O.Tw kf lt).1<|jk rfl (G.wd.K O) (.inr<|.inr (O.Tw kf lt).2)<|bP (da rfl)<|PM O Lk G hcode hq cs λs1 f LA hnf T1=>eu ⟨T1.wd.K O,?_⟩
 have G1:=G.kG T1
 refine aq (CO (F:=F) (s:=s1) (E:=E) (K:=PV F (VD F.c P.H) s1 Q) ?_) (λv s2 p=>p.hF T1 λU U U d=>d) λU U p=>p.hF T1
 have q1:=Um q
 refine mJ (vs:=[.ref f]) O D hK Hn hcd (λs k=>hbind s _ k rfl) rfl G1.cl λyP h2 ND En=>?_
 have V:=En.gds (fg:=NF+1) (uH:=ND) (pn:=none) G1.cl hl (O:=O0) (δ:=[]) BF (λi j b m=>nomatch m) (λv e=>nn e)<|λi p e=>nn e
 have NC: ∀y,yP.kindOf y=fd.scope.names.lookup y:=λy=>by unfold vl;rw[En.of.sc]
 have Lf:PL F.c body fz cl {s1 with heap:=h2,toks:=ND} f:=by
  obtain⟨hf,hb,hd,hv⟩:=LA
  exact⟨En.keep _ _ hf,En.keep _ _ hb,hd,hv⟩
 have dw:wpAny F.M (F.A.deeper yP) (eval (.Call (.Name (br AH) p1) [] [] p2) yP) (PV (F.dw (NF+1) SO yP) (VD F.c<|H1 ⟨F.dw (NF+1) SO yP,ol P.H O0,none⟩) {s1 with heap:=h2,toks:=ND} Q) (PX (F.dw (NF+1) SO yP) {s1 with heap:=h2,toks:=ND} λm r=>m.length<=9999/\Q (.d m) r) {s1 with heap:=h2,toks:=ND}:=by
  refine cR<|kR (qc (F:=F.dw (NF+1) SO yP) (i:=0) rfl (.inl<|(NC _).trans hl1) (by decide+kernel) V.g (v:=.ref f) rfl ?_) (by decide+kernel)
  obtain @⟨cb,pm,ctv,o,us,t,hf,e1,e2,e3⟩:=id Lf
  refine S9 (K:=[(f,{cls:=.type "function",data:=.func (kla_fn "<lambda>" F.c.nP tX body fz cl pm (.ref cb) ctv)})]) (λa o e=>?_) (by unfold vh;simp) ?_
  ·rw[cB]at e
   cases z:a==f with
   |true=>rw[z]at e;cases e;rw[eq_of_beq z];exact hf
   |false=>rw[z]at e;exact nn e
  ·refine CO (F:=F.dw (NF+1) SO yP) ?_
   rw[←yG]
   have up:=En.up (fg:=NF+1) (pn:=none) G1.cl (O:=O0) BF
   exact PO (F:=F.dw (NF+1) SO yP) O V.g.cl (bK _) Lf (G1.ev.keep λb U o e=>⟨o.slots,En.keep b o e⟩) (λb l=>⟨.inl (.inr ⟨(G1.ic b l).1,λU m=>(nomatch m)⟩),(G1.ic b l).2⟩) KS cs (λi d e=>by
    obtain⟨v,e1,D⟩:=G1.nB i d e
    exact⟨v,e1,D.aW (.all En.keep) up⟩) hE q1
 refine iq<|aq (Uk (Z:=⟨F.dw (NF+1) SO yP,ol P.H O0,none⟩) (K:=⟨λU U=>cC,Q,λU U=>cC,λU U=>cC⟩) (RE:=λU U=>cC) O XC En.here rfl (by unfold gp;rw[hd9,show(F.dw (NF+1) SO yP).au.kindOf (F.c.fY 9)=_ from(NC _).trans hl9];rfl) ((NC _).trans hl2) (by decide+kernel) V dw) (λfl s' p=>?_) λU U z=>z.elim
 obtain⟨v,rfl,p⟩:=p
 cases p with
 |val D T q=>exact⟨_,rfl,D.aW (.cm _ _) (.f9 λb q=>.inr ⟨q,λU m=>(nomatch m)⟩),En.kG T XR,q⟩
 |nF D n T q=>exact q.elim
end
section
variable{prog:pg}{w:World}{A:eX}{R:tq->af->Prop}{s:af}
noncomputable def gU(elt:aX)(x y:b9)(px py:jt)(it1 tH:aX)(scope:jB)(pos:jt):Expr:=.ListComp elt [⟨.Name x px,it1,[],0⟩,⟨.Name y py,tH,[],0⟩] scope pos
theorem Md(elt:aX)(x y:b9)(px py:jt)(i1 i2:aX)(scope:jB)(pos:jt)(it acc:ak)(au:tx):
  S2 (gU elt x y px py i1 i2 scope pos) 0 it acc au=(do
   jS i1.pos
   match ←pU it with
   |none=>pure<|.done .next
   |some v=>
    Et (.Name x px) it v
    mQ (.Name x px) au v
    let z ←eval i2 au
    jS i2.pos
    let z ←cH i2 au z
    let _ ←runOwn (.compStart (gU elt x y px py i1 i2 scope pos) 1 (←jr [z] (Cc z)) acc au) au
    again (.compLoop (gU elt x y px py i1 i2 scope pos) 0 it acc au)):=by rfl
theorem PQ(elt:aX)(x y:b9)(px py:jt)(i1 i2:aX)(scope:jB)(pos:jt)(it acc:ak)(au:tx):
  S2 (gU elt x y px py i1 i2 scope pos) 1 it acc au=(do
   jS i2.pos
   match ←pU it with
   |none=>pure<|.done .next
   |some v=>
    Et (.Name y py) it v
    mQ (.Name y py) au v
    (do let _ ←call (.builtin "list.append") [acc,←eval elt au])
    again (.compLoop (gU elt x y px py i1 i2 scope pos) 1 it acc au)):=by rfl
theorem PR(I:av->af->Prop)
  (O8: ∀n s,I n s->wpAny (model prog w) A (pU it) (λr s₁=>match r with
   |none=>R (.ok .next) s₁
   |some v=>wpAny (model prog w) A (mQ (.Name y py) au v) (λU s₂=>wpAny (model prog w) A (eval elt au) (λx s₄=>
       wpAny (model prog w) A (call (.builtin "list.append") [acc,x]) (λU s₅=> ∃m,m<n/\I m s₅) (lP (model prog w) A au λe s'=>R (.error e) s') s₄) (lP (model prog w) A au λe s'=>R (.error e) s') s₂)
      (lP (model prog w) A au λe s'=>R (.error e) s') s₁) (lP (model prog w) A au λe s'=>R (.error e) s') s)
  (n:av) (h:I n s):cW (model prog w) A (.compLoop (gU elt x y px py i1 i2 scope pos) 1 it acc au) R s:=by
 refine codeAny_loop rfl I (λn s hI=>?_) n h
 show wpAny _ A ((S2 (gU elt x y px py i1 i2 scope pos) 1 it acc au).onRaise (λx=>do Cd x au;ach x)) _ _ s
 refine wpAny_noted ?_
 rw[PQ]
 refine ac<|gq<|ac<|aq (O8 n s hI) (λr s₁ h₁=>?_) λU U h'=>h'
 cases r with
 |none=>exact aD h₁
 |some v=>
  refine ac<|aD ?_
  exact ac<|aq h₁ (λU s₂ h₂=>ac<|ac<|aq h₂ (λx s₄ h₄=>ac<|aq h₄ (λU s₅ h₅=>aD<|aD ⟨rfl,h₅⟩) λU U h'=>h') λU U h'=>h') λU U h'=>h'
theorem Mg(I:av->af->Prop)(hs: ∀x,cH i2 au x=pure x)
  (O8: ∀n s,I n s->wpAny (model prog w) A (pU it) (λr s₁=>match r with
   |none=>R (.ok .next) s₁
   |some v=>wpAny (model prog w) A (mQ (.Name x px) au v) (λU s₂=>wpAny (model prog w) A (eval i2 au) (λz s₃=>wpAny (model prog w) A (Cc z) (λtH s₄=>
       cW (model prog w) A (.compStart (gU elt x y px py i1 i2 scope pos) 1 tH acc au) (λr s₅=>match r with|.ok _=> ∃m,m<n/\I m s₅|.error _=>cC) s₄)
       (lP (model prog w) A au λe s'=>R (.error e) s') s₃) (lP (model prog w) A au λe s'=>R (.error e) s') s₂)
      (lP (model prog w) A au λe s'=>R (.error e) s') s₁) (lP (model prog w) A au λe s'=>R (.error e) s') s)
  (n:av) (h:I n s):cW (model prog w) A (.compLoop (gU elt x y px py i1 i2 scope pos) 0 it acc au) R s:=by
 refine codeAny_loop rfl I (λn s hI=>?_) n h
 show wpAny _ A ((S2 (gU elt x y px py i1 i2 scope pos) 0 it acc au).onRaise (λx=>do Cd x au;ach x)) _ _ s
 refine wpAny_noted ?_
 rw[Md]
 refine ac<|gq<|ac<|aq (O8 n s hI) (λr s₁ h₁=>?_) λU U h'=>h'
 cases r with
 |none=>exact aD h₁
 |some v=>
  refine ac<|aD ?_
  refine ac<|aq h₁ (λU s₂ h₂=>ac<|aq h₂ (λz s₃ h₃=>ac<|gq<|ac<|SX (hs z)<|ac<|dA<|aq h₃ (λtH s₄ h₄=>?_) λU U h'=>h') λU U h'=>h') λU U h'=>h'
  refine ac<|wpAny_runOwn (h:=none)<|lQ h₄ λr s' p=>?_
  cases r with
  |ok f=>exact aD ⟨rfl,p⟩
  |error e=>exact p.elim
theorem XY
  (h0:cW (model prog w) A (.compLoop (gU elt x y px py i1 i2 scope pos) 1 it acc au) R s)
  (h:wpAny (model prog w) A (Cc it) (λit' s'=>cW (model prog w) A (.compLoop (gU elt x y px py i1 i2 scope pos) 1 it' acc au) R s') (lP (model prog w) A au λx s'=>R (.error x) s') s):
  cW (model prog w) A (.compStart (gU elt x y px py i1 i2 scope pos) 1 it acc au) R s:=by
 refine acj ?_
 show wpAny _ _ ((compStart (gU elt x y px py i1 i2 scope pos) 1 it acc au).onRaise (λx=>do Cd x au;jS theWindowsPlace)) _ _ s
 refine wpAny_notedAt ?_
 unfold compStart
 refine(?_:wpAny _ _ (ask>>=_) _ _ s)
 refine ac<|Zq<|wpAny_ite ?_
 split
 ·first
   |exact ac (aD (aD (mD.intro rfl h0)))
   |exact aD (mD.intro rfl h0)
 ·refine ac<|GN ?_
  refine(?_:wpAny _ _ (jS i2.pos>>=_) _ _ s)
  exact ac<|gq<|ac<|aq h (λit' s' h'=>aD<|mD.intro rfl h') λU U x=>x
end
theorem iI.XZ{au:tx}{Λ:aa (ag b9)}{vs:aa (ag ak)}{h:cy}{j:av}{o:ag ak}(V:iI au Λ (vs.set j o) h):iI au Λ (vs.set j none) h:=by
 have hF: ∀{i:av} {v:ak},(vs.set j none)[i]?=some (some v)->(vs.set j o)[i]?=some (some v):=λ{i v} e=>by
  by_cases z:i=j
  ·subst z
   rw[dy,aJ rfl]at e
   split at e
   ·exact nn<|am e
   ·exact nn e
  ·rw[fT z]at e ⊢
   exact e
 refine aU λG9 k9=>?_
 obtain⟨m,hn,hm⟩:=V.ns
 refine k9 ?_
 exact{V with cn:=by rw[dn];exact(dn ..).symm.trans V.cn,ns:=⟨m,hn,λi x v h1 h2=>hm i x v h1<|hF h2⟩,cell:=λi x v h1 h2=>V.cell i x v h1 (hF h2)}
theorem iI.slot(V:iI au Λ vs h)(hy: ∀k:av,Λ[k]?≠some (some y))(hj:j<Λ.length):iI au (Λ.set j<|some y) (vs.set j none) h:=by
 refine bN V.ns λm h9=>cK h9 λhn hm=>?_
 have hF: ∀{i:av} {x:b9} {v:ak},(Λ.set j<|some y)[i]?=some (some x)->(vs.set j none)[i]?=some (some v)->Λ[i]?=some (some x)/\vs[i]?=some (some v):=λ{i x v} h1 h2=>by
  by_cases z:i=j
  ·subst z
   rw[dy,aJ rfl]at h2
   split at h2
   ·exact nn<|am h2
   ·exact nn h2
  ·rw[fT z]at h1 h2
   exact⟨h1,h2⟩
 refine{V with cn:=by rw[dn,dn];exact V.cn,ns:=⟨m,hn,λi x v h1 h2 h3=>hm i x v (hF h1 h2).1 (hF h1 h2).2 h3⟩,cell:=λi x v h1 h2 h3=>V.cell i x v (hF h1 h2).1 (hF h1 h2).2 h3,inj:=λi k x h1 h2=>?_}
 rcases fS h1 with⟨rfl,e⟩|⟨z,e⟩
 ·rcases fS h2 with⟨rfl,_⟩|⟨_,e'⟩
  ·rfl
  ·cases e
   exact absurd e'<|hy k
 ·rcases fS h2 with⟨rfl,e'⟩|⟨_,e'⟩
  ·cases e'
   exact absurd e<|hy i
  ·exact V.inj i k x e e'
structure om(au:tx)(Λ:aa (ag b9))(scope:jB)(i j:av)(x y:b9):Prop extends m3 au Λ scope i x where
 JW:j<Λ.length
 ne:i≠j
 aa6:scope.names.lookup y=some .local
 xy:x≠y
noncomputable def gw(Λ:aa (ag b9))(names:aa (b9×eB))(i j:av)(x y:b9):aa (ag b9):=(dg Λ names i x).set j<|some y
section
variable{au:tx}{Λ:aa (ag b9)}{scope:jB}{i j:av}{x y:b9}
theorem yQ:(dg Λ names i x).length=Λ.length:=by unfold dg;rw[dn,aw]
theorem om.l9(K:om au Λ scope i j x y): ∀k:av,(dg Λ scope.names i x)[k]?≠some (some y):=λk h=>by
 rcases kV h with⟨_,e⟩|⟨_,_,e⟩
 ·exact K.xy e.symm
 ·exact absurd (K.aa6.symm.trans e) (by simp)
theorem Mh(K:om au Λ scope i j x y):(gw Λ scope.names i j x y)[i]?=some (some x):=(fT K.ne).trans<|ri K.slot
theorem Mi(K:om au Λ scope i j x y):(gw Λ scope.names i j x y)[j]?=some (some y):=rg (by rw[yQ];exact K.JW)
end
theorem Fd{α:Type}{l:aa (ag α)}{i j:av}{o:ag α}(h:i≠j):((l.set j none).set i o).set j none=(l.set j none).set i o:=by
 refine aK (Ej _ _ h) ?_
 rw[wy]
noncomputable abbrev PT(y:Dl->Rw->bc DV)(δ:Dl)(j:av)(d:DV)(r:Rw):bc (aa DV):=(y (δ.set j<|some d) r).bind λv r=>.c [v] r
noncomputable abbrev PU(z2:Dl->Rw->bc (aa DV))(y:Dl->Rw->bc DV)(δ:Dl)(i j:av)(d:DV)(r:Rw):bc (aa DV):=(z2 (δ.set i<|some d) r).bind λys r=>if ys.length<=99 then gn (PT y (δ.set i<|some d) j) ys [] r else .d
noncomputable abbrev yR(c:Cx)(H:az->Prop)(D:az)(h:cy)(acc:aa DV):Prop:=iy c H h (.ref D) acc [D]
structure Fe(c:Cx)(H:az->Prop)(D I:az)(xs aeS:aa DV)(k:av)(h:cy)(acc:aa DV):Prop where
 l:iy c H h (.ref D) (aeS++acc) [D]
 it:jV c H h I xs k
section
variable{F:Fx}{H:az->Prop}{s0 s s1:af}{r r1:Rw}{vs:aa (ag ak)}{δ:Dl}{I D I2:az}{xs ys acc:aa DV}{k:av}
theorem PW(C:CP F H (λx=>x=D) s0 I (yR F.c H D))(V:CS F H (yR F.c H D) s0 I xs k vs δ r acc s)(T:gc F r1 s s1)(new:s.heap.get? I2=none)(it:jV F.c (λb=>H b\/b=I2) s1.heap I2 ys 0):
  CP F (λb=>H b\/b=I2) (λb=>b=D\/b=I) s0 I2 (Fe F.c (λb=>H b\/b=I2) D I xs acc k)/\CS F (λb=>H b\/b=I2) (Fe F.c (λb=>H b\/b=I2) D I xs acc k) s0 I2 ys 0 vs δ r1 [] s1:=by
 have ne: ∀b,(∃o,s.heap.get? b=some o)->b≠I2:=λb e z=>by
  obtain⟨o,e⟩:=e
  exact nn<|new.symm.trans<|z▸e
 have eD: ∃o,s.heap.get? D=some o:=ii.jx (d:=.c acc) V.b|>.2 D (.head _)
 have eI: ∃o,s.heap.get? I=some o:=by
  obtain⟨o,e,_⟩:=V.it.obj
  exact⟨o,e⟩
 have eC: ∃o,s.heap.get? F.au.locals=some o:=by
  obtain⟨m,⟨o,es,ep,e,_⟩,_⟩:=V.g.ev.ns
  exact⟨o,e⟩
 have nD:=C.x0 D<|C.new D<|.inl rfl
 have nI:=C.x0 I<|C.new I<|.inr<|.inl rfl
 obtain⟨o2,e2,_⟩:=it.obj
 refine⟨⟨λb w=>?_,λb w=>?_,(ne _ eC).symm,λb w=>?_,λh h' acc k f b=>⟨b.l.keep (k D · (.inl rfl)) f,b.it.keep f (k I · (.inr rfl))⟩,C.x0,C.ic⟩,⟨V.g.TN T new ⟨o2,e2⟩,V.T.seq T,it,⟨?_,?_⟩⟩⟩
 ·rcases w with(rfl|rfl)|rfl|rfl
  ·exact C.new b<|.inl rfl
  ·exact C.new b<|.inr<|.inl rfl
  ·exact V.T.kp.dp new
  ·exact C.new _<|.inr<|.inr rfl
 ·rcases w with rfl|rfl
  ·exact⟨ne _ eD,(C.wI b rfl).2⟩
  ·exact⟨ne _ eI,C.IC⟩
 ·rcases w with(rfl|rfl)|rfl|rfl
  ·exact .inl<|C.hH b<|.inl rfl
  ·exact .inl<|C.hH b<|.inr<|.inl rfl
  ·exact .inr rfl
  ·exact .inl<|C.hH _<|.inr<|.inr rfl
 ·rw[bI]
  exact ii.aW (d:=.c acc) (V.g.g9 T) (LQ H new) (λa m o e=>by
   cases bh.mp m
   exact T.kp.pq _ o e nD.2.1 nD.2.2) V.b
 ·exact V.it.aW (V.g.g9 T) (LQ H new) λo e=>T.kp.pq I o e nI.2.1 nI.2.2
theorem PY{Mj}{o j}(V:CS F H (yR F.c H D) s0 I xs k vs δ r acc s)(new:s.heap.get? I2=none)(hj:vs.set j none=vs)(hd:δ.set j none=δ)(G:Gd F ⟨λb=>(H b\/b=I2)/\b≠I2,vs.set j o,δ.set j none⟩ r1 s1)(T:gc F r1 s0 s1)(b:Fe F.c (λb=>H b\/b=I2) D I xs acc k s1.heap Mj):CS F H (yR F.c H D) s0 I xs k vs δ r1 (acc++Mj) s1:=by
 have n: ¬H I2:=λh=>by
  obtain⟨o,e⟩:=V.g.iu I2 h
  exact nn<|new.symm.trans e
 have G1:=G.few (H2:=H) (δ':=δ) (λb h=>⟨.inl h,λz=>n<|z▸h⟩) (λb q=>q.elim (λm=>(V.g.er.apart b m).1) λq=>q.elim (λl=>(V.g.ic b l).1)<|V.g.hx b) λi d e=>by
  obtain⟨v,e1,D⟩:=G.nB i d (by rw[hd];exact e)
  exact⟨v,e1,D.aW (.cm _ _)<|.f9 λb h=>⟨.inl h,λz=>n<|z▸h⟩⟩
 refine⟨⟨G1.wd,G1.er,?_,G1.ic,G1.hx,G1.iu,λi d e=>?_⟩,T,b.it.aW (.cm _ _) (.f9 λU=>.inl) λU e=>e,ii.aW (d:=.c<|acc++Mj) (.cm _ _) (.f9 λU=>.inl) (λU U U e=>e) b.l⟩
 ·have:=G.ev.XZ
  rwa [hj]at this
 ·obtain⟨v,e1,D⟩:=G1.nB i d e
  refine⟨v,?_,D⟩
  by_cases z:i=j
  ·subst z
   have:fM δ i=none:=by
    refine aK hd.symm ?_
    unfold fM
    rw[dy]
    refine aK (aJ rfl) ?_
    split<;>rfl
   exact nn<|this.symm.trans e
  ·exact(fT z).symm.trans e1
end
section
variable{F:Fx}{P:Pt}{r r0 r1:Rw}{s s0 s1 s2:af}{RE:ak->af->Prop}
theorem X0{H:az->Prop}{K':aa DV->Rw->Prop}{R:tq->af->Prop}
  (gv:F.Λ[j]?=some (some y)) (hk:F.au.kindOf y=some .local) (hE:SE F elt ye)
  (C:CP F H (λx=>x=D) s0 I (yR F.c H D)) (V:CS F H (yR F.c H D) s0 I xs k vs δ r acc s) (T:gc F r1 s s1) (new:s.heap.get? I2=none) (it:jV F.c (λb=>H b\/b=I2) s1.heap I2 ys 0) (hj:vs.set j none=vs) (hd:δ.set j none=δ)
  (hlen:ys.length<=99) (hacc:acc.length<=9702) (q:(gn (PT ye δ j) ys [] r1).wp K' λU U=>cC)
  (hR: ∀a r' s',CS F H (yR F.c H D) s0 I xs k vs δ r' (acc++a) s'->K' a r'->a.length<=99->R (.ok .next) s'):
  cW F.M F.A (.compStart (gU elt x y px py it1 tH scope pos) 1 (.ref I2) (.ref D) F.au) R s1:=by
 refine cK (PW C V T new it) λC2 V2=>?_
 have loop: ∀s3,CS F (λb=>H b\/b=I2) (Fe F.c (λb=>H b\/b=I2) D I xs acc k) s0 I2 ys 0 vs δ r1 [] s3->cW F.M F.A (.compLoop (gU elt x y px py it1 tH scope pos) 1 (.ref I2) (.ref D) F.au) R s3:=λs3 V3=>by
  refine PR (LV F (λb=>H b\/b=I2) (Fe F.c (λb=>H b\/b=I2) D I xs acc k) s0 I2 ys j vs δ (PT ye δ j) K' 0 1) (λn s hI=>?_) ys.length<|.mk (k:=0) (o:=none) rfl (hj.symm▸hd.symm▸V3) q<|bD _
  refine r8 (w:=0) (wd:=1) (body:=λP' s₂=>wpAny F.M F.A (eval elt F.au) (λx s₄=>wpAny F.M F.A (bS (.builtin "list.append") [.ref D,x]) (λU s₅=>P' s₅) _ s₄) _ s₂) C2 gv hk (λk2 d r s Mj v K2 P' V q hw hk2 hP=>?_) (λr s Mj o G T b qk hl=>?_) hI
  ·refine aq (hE.Aw V.g (bc.de q) λv y s2 r2 D1 G2 T2 q2=>?_) (λU U z=>z) λU U p=>p.no
   have V2:=V.kG C2 T2
   refine aq (vN (λb m=>C2.hH b<|.inl<|.inl<|bh.mp m) V2.b.l D1 (by rw[aP];lia)) (λw s3 p=>?_) λU U p=>p.elim
   obtain⟨rfl,p⟩:=p
   obtain⟨e,eL,Dl,sb,⟨o,e1,n1⟩,⟨h',tk,rfl⟩⟩:=p
   cases e
   obtain⟨o',eo⟩:=Dl.jx.2 _<|.head _
   refine hP [y] r2 _ (V2.HE C2 (.inl rfl) sb ⟨o,e1,n1⟩ ⟨o',eo⟩ ⟨?_,V2.b.it.keep (.mG sb<|.inl<|C.hH D<|.inl rfl) λo e=>(sb.2 I (C.wI D rfl).1.symm).trans e⟩) q2<|bK _
   rw[←eU]
   exact Dl
  ·exact hR Mj r s (PY V new hj hd G T b) qk (by rw[kU,ty]at hl;exact ao hl hlen)
 exact XY (loop _ V2)<|V2.it.j8<|loop _ V2
theorem CS.JW{F:Fx}{scope:jB}{cl:aa (b9×az)}{C I:az}{i j:av}{x y:b9}{H:az->Prop}{B:cy->aa DV->Prop}{vs:aa (ag ak)}{δ:Dl}{xs acc:aa DV}{k:av}(K:om F.au F.Λ scope i j x y)(V:CS (F.fI scope cl C<|dg F.Λ scope.names i x) H B s0 I xs k (vs.set i none) (δ.set i none) r acc s):
  CS (F.fI scope cl C<|gw F.Λ scope.names i j x y) H B s0 I xs k ((vs.set j none).set i none) ((δ.set j none).set i none) r acc s:=by
 have g:=V.g
 refine⟨⟨g.wd,⟨g.er.frames,g.er.cE,g.er.apart,g.er.depth,g.er.units,g.er.handled⟩,?_,g.ic,g.hx,g.iu,λa d e=>?_⟩,⟨V.T.wd,V.T.kp,V.T.same⟩,V.it,V.b⟩
 ·refine aK (Ej _ _ K.ne.symm) ?_
  exact g.ev.slot K.l9 (by rw[show(F.fI scope cl C<|dg F.Λ scope.names i x).Λ.length=F.Λ.length from yQ];exact K.JW)
 ·obtain⟨ai,e⟩:=mI e
  obtain⟨aj,e⟩:=mI e
  obtain⟨v,e1,D⟩:=g.nB a d (by
   unfold fM at e ⊢
   refine aK (fT ai) ?_
   exact e)
  exact⟨v,by rw[fT ai,fT aj];exact(fT ai).symm.trans e1,D⟩
theorem HZ{elt iter tH}{x y}{px py pos}{scope}{cl}{i j}{I xs}{z2}{ye}{RR:ak->az->tq->af->Prop}{Kf:aa DV->Rw->Prop}(K:om F.au F.Λ scope i j x y)(cs:rh F.au scope cl)(hs: ∀au x,cH tH au x=pure x)
  (hJ: ∀C,SI (F.fI scope cl C<|gw F.Λ scope.names i j x y) tH z2) (hE: ∀C,SE (F.fI scope cl C<|gw F.Λ scope.names i j x y) elt ye)
  (G0:Gd F P r0 s0) (T2:gc F r s0 s2) (nR:s0.heap.get? I=none) (it:jV F.c (λb=>P.H b\/b=I) s2.heap I xs 0) (hlen:xs.length<=99)
  (q:(gn (PU z2 ye (P.δ.set j none) i j) xs [] r).wp Kf λU U=>cC) (hRR: ∀D C s r acc,HP F P s0 D C (.c acc) r s->Kf acc r->RR (.ref D) C (.ok .next) s):
  wpAny F.M F.A (newList []) (λacc s₃=>wpAny F.M F.A (GS scope F.au.globals cl [] F.au.qual none .none (some F.au)) (λcenv s₄=>
   cW F.M F.A (.compStart (gU elt x y px py iter tH scope pos) 0 (.ref I) acc {cenv with scope:=YR scope F.au}) (RR acc cenv.locals) s₄) RE s₃) RE s2:=by
 refine qU<|nG K.oU (by intro y hy;exact nomatch hy) (λh₁ hns sb=>?_) K.kind
 have L:=yF hns sb<|aR _ rfl
 have G2:=G0.kG T2
 refine bN it.obj λoI h9=>cK h9 λeI U=>?_
 have core: ∀(D C:az) (h₁:cy) tk,Y8 s2.heap h₁ D C (eZ [] 0)->(∃m,h₁.Ns C m)->cW F.M F.A (.compStart (gU elt x y px py iter tH scope pos) 0 (.ref I) (.ref D)<|fb scope cl C F.au) (RR (.ref D) C) {s2 with heap:=h₁,toks:=tk}:=by
  intro D C h₁ tk L hn
  refine bN hn λm hn=>?_
  have JP:=CY (Λ:=gw F.Λ scope.names i j x y) (B:=yR F.c (iJ P I D C) D) (scope:=scope) G0 T2 nR ⟨oI,eI⟩ cs.of L λh h' acc k f b=>iy.keep b k f
  have V0:=CS.JW K<|CZ (B:=yR F.c (iJ P I D C) D) (tk:=tk) (acc:=[]) G0 T2 nR it cs.of L (yE G2.ev K.tom3 cs L.pq hn) (λj z v e=>(fT z).trans e) (P.δ.set i none) (λj d e=>mI e) ⟨rfl,rfl,L.oD,bD _,.nil⟩
  have loop: ∀s3,CS (F.fI scope cl C<|gw F.Λ scope.names i j x y) (iJ P I D C) (yR F.c (iJ P I D C) D) s0 I xs 0 ((P.vs.set j none).set i none) ((P.δ.set j none).set i none) r [] s3->
    cW F.M F.A (.compLoop (gU elt x y px py iter tH scope pos) 0 (.ref I) (.ref D)<|fb scope cl C F.au) (RR (.ref D) C) s3:=λs3 V=>by
   refine Mg (LV (F.fI scope cl C<|gw F.Λ scope.names i j x y) (iJ P I D C) (yR F.c (iJ P I D C) D) s0 I xs i (P.vs.set j none) (P.δ.set j none) (PU z2 ye (P.δ.set j none) i j) Kf 0 99) (hs _) (λn s hI=>?_) xs.length<|.mk (k:=0) rfl V q<|bD _
   refine r8 (F:=F.fI scope cl C (gw F.Λ scope.names i j x y)) (w:=0) (wd:=99) (body:=λP' s₂=>wpAny F.M F.A (eval tH (fb scope cl C F.au)) (λz s₃=>wpAny F.M F.A (Cc z) (λaeT s₄=>
       cW F.M F.A (.compStart (gU elt x y px py iter tH scope pos) 1 aeT (.ref D) (fb scope cl C F.au)) (λr s₅=>match r with|.ok _=>P' s₅|.error _=>cC) s₄) _ s₃) _ s₂) JP (Mh K) (nJ K.var) (λk d r s acc v K' P' V q hw hk hP=>?_) (λr s acc o G T b qk U=>?_) hI
   ·refine aq (hJ C _ r s _ _ V.g<|bc.de q) (λxv s₁ h₁=>aq h₁ (λit' s₂ h₂=>?_) λU U p=>p.no) λU U p=>p.no
    obtain @⟨ys,r2,D2,T3,q2⟩:=h₂
    obtain⟨rfl,it3,Xq,_⟩:=D2
    by_cases X1:ys.length<=99
    ·rw[aJ X1]at q2
     exact X0 (F:=F.fI scope cl C<|gw F.Λ scope.names i j x y) (R:=λr s₅=>match r with|.ok _=>P' s₅|.error _=>cC) (Mi K) (nJ K.aa6) (hE C) JP V T3 Xq it3 (Fd K.ne) (Fd K.ne) X1 (by lia) q2 λa r' s' V' qk ha=>hP a r' s' V' qk ha
    ·rw[aN X1]at q2
     exact q2.elim
   ·refine bN G.ev.ns λm h9=>cK h9 λhn U=>?_
    refine hRR D C s r acc ⟨⟨T.wd,T.kp,T.same⟩,T2.kp.dp L.nD,T2.kp.dp L.nC,L.DC,⟨m,hn⟩,?_⟩ qk
    exact ii.aW (d:=.c acc) (.cm _ _) (.f9 λb q=>q.elim (λq=>q.imp id λq=>.inr<|.inl<|bh.mp q) λq=>.inr<|.inr<|.inr q) (λU U U e=>e) b
  exact NL (loop _ V0)<|V0.it.j8<|loop _ V0
 exact core _ _ _ _ L ⟨_,hns⟩
theorem S.X2(K:om F.au F.Λ scope i j x y)(hs: ∀x,cH iter F.au x=pure x)(hs2: ∀au x,cH tH au x=pure x)(hI:SI F iter z)
  (hJ: ∀cl C,SI (F.fI scope cl C<|gw F.Λ scope.names i j x y) tH z2) (hE: ∀cl C,SE (F.fI scope cl C<|gw F.Λ scope.names i j x y) elt ye):
  S F VO (eval (gU elt x y px py iter tH scope pos) F.au) (λδ r=>(z δ r).bind λxs r=>if xs.length<=99 then(gn (PU z2 ye (δ.set j none) i j) xs [] r).bind λacc r=>.c (.c acc) r else .d):=λP r s Q E G q=>by
 obtain⟨cl,cs⟩:=mH G.ev K.free K.md
 unfold gU
 rw[afO]
 refine hV (use:=none) rfl hs cs.eq K.kind K.names<|aq (hI P r s _ E G<|bc.de q) (λxv s₁ h₁=>aq h₁ (λit s₂ h₂=>?_) λU U e=>e) λU U e=>e
 obtain @⟨xs,r2,D,T2,q2⟩:=h₂
 obtain⟨rfl,it,nR,hl⟩:=D
 by_cases X1:xs.length<=99
 ·rw[aJ X1]at q2
  exact HZ (RR:=GW F.M F.A (PX F s E) none<|PV F (VO F.c P.H) s Q) (Kf:=λacc r=>Q (.c acc) r) K cs hs2 (hJ cl) (hE cl) G T2 nR it X1 (rj<|bc.de q2) λD C s' r' acc V qk=>V.eM G.wd qk
 ·rw[aN X1]at q2
  exact q2.elim
end
structure Ff(F:Fx)(P:Pt)(r:Rw)(x dx:az)(k:av)(s1:af)(fs:aa (av×ak))(s:af):Prop where
 g:Gd F P r s
 nF: ∃m,j6 s.heap dx m fs.length/\ ∀f≤5,m (br<|aO f)=fs.lookup f
 x:s.heap.get? x=some (iF (F.c.cls k) dx)
 kp:Kp (λx=>x=dx) (jU F.du) s1.heap s.heap
 same: ∃h tk,s={s1 with heap:=h,toks:=tk}
structure Un(F:Fx)(P:Pt)(dx:az):Prop where
 h:P.H dx
 cV:F.c.cV.get? dx=none
 xe: ¬Xe F.c dx
 fr:dx∉jU F.du
 ic: ¬yi F.au dx
theorem Fg{α:Type}(fs:aa (av×α)){f g}{u}:(fs++[(f,u)]).lookup g=if g=f then(fs.lookup g).or (some u) else fs.lookup g:=by
 induction fs with
 |nil=>
  refine(?_:Jk g [(f,u)]=_)
  rw[cB]
  by_cases e:g=f
  ·subst e;rw[aJ rfl,bH];rfl
  ·exact aK (aN e)<|aK (cz.mpr e) rfl
 |cons p fs ih=>
  obtain⟨a,b⟩:=p
  rw[SA,cB,cB]
  cases g==a with
  |true=>
   by_cases e:g=f
   ·refine aK (aJ e) ?_
    rfl
   ·exact aK (aN e) rfl
  |false=>exact ih
section
variable{F:Fx}{P:Pt}{r:Rw}{x dx:az}{k:av}{s1 s:af}{fs:aa (av×ak)}{RE:ak->af->Prop}{Q:Ta->af->Prop}
theorem kY{j8}{i f}{p1 p2 p3}{e}{rest}{U:ak->Prop}(O:F.c.Ok)(hk:k<=2)(gQ:Un F P dx)(N:jl F i j8)(hself:P.vs[i]?=some (some<|.ref x))(hf:f<=4)(hl:fs.length<=98)(hn:fs.lookup f=none)(hsw:dB e (some<|.Attribute (.Name j8 p1) (br<|aO f) p2) p3.line F.au=pure false)
  (I:Ff F P r x dx k s1 fs s) (hv:wpAny F.M F.A (eval e F.au) (λu s'=>U u/\ ∃tk,s'={s with toks:=tk}) RE s) (kk: ∀u s',U u->Ff F P r x dx k s1 (fs++[(f,u)]) s'->wpAny F.M F.A (execs rest F.au) Q RE s'):
  wpAny F.M F.A (execs (.Assign [.Attribute (.Name j8 p1) (br<|aO f) p2] e p3::rest) F.au) Q RE s:=by
 refine iq<|ml (aq hv (λu s' p=>?_) λU U z=>z) hsw
 obtain⟨hu,tk,oS⟩:=p
 refine aK oS ?_
 have G':=I.g.kG<|.nE I.g.wd tk
 refine aU λG9 k9=>?_
 obtain⟨m,ho,hm⟩:=I.nF
 obtain⟨od,es,ep,ed,edd,_⟩:=id ho
 refine k9 ?_
 refine kR (qc N.gv N.hk N.hc G' hself<|yB O G'.wd I.x hk ho (fN hl) hf λh' tk' ho' sb=>kk u _ hu ?_) N.hd
 refine aU λG9 k9=>?_
 obtain⟨od',es',Xd,ed',_⟩:=id ho'
 refine k9 ?_
 have hz:(m<|br<|aO f).isSome=false:=by rw[hm f<|fN hf,hn];rfl
 rw[aN (by rw[hz];decide)]at ho'
 have ne:x≠dx:=λz=>by
  have e:=I.x
  replace e:=ed▸z▸e
  cases e
  cases edd
 refine⟨(G'.E0 (tk:=tk') gQ.h gQ.cV gQ.xe gQ.fr gQ.ic sb ⟨od,ed,ut edd⟩ ⟨od',ed'⟩),⟨_,by rw[aP];exact ho',λg hg=>?_⟩,(sb.2 x ne).trans I.x,I.kp.seq<|.mG sb ⟨od',ed'⟩ rfl,df I.same ⟨_,_,rfl⟩⟩
 rw[Fg]
 by_cases z:g=f
 ·refine aK z ?_
  rw[aJ rfl,aJ rfl,hn];rfl
 ·refine aK (aN z)<|aK (aN λw=>z<|JI hg (fN hf)<|og.mp w) ?_
  exact hm g hg
theorem Dc(G:Gd F P r s)(N:jl F j y)(hj:P.vs[j]?=some (some v)):wpAny F.M F.A (eval (.Name y p) F.au) (λu s'=>u=v/\ ∃tk,s'={s with toks:=tk}) RE s:=
 kR (qc N.gv N.hk N.hc G hj ⟨rfl,s.toks,rfl⟩) N.hd
theorem BG{H:az->Prop}(O:F.c.Ok)(D:yL fd ps Λ body)(hK:F.c.K.lookup a=some o)(hd:o.data=.func fd)(hcd:F.c.cV.CodeRec fd.code fd.qualname)
  (hbind: ∀s:af,F.c.K.In s.heap->qW s fd ⟨.ref x::vals,[]⟩ (ps.zip<|.ref x::vs)) (hvs:(.ref x::vs:aa ak).length=ps.length) (hl:fg+1<=F.lv) (C:Cl F H r s) (hx:s.heap.get? x=some (iF (F.c.cls k) dx)) (hdx:j6 s.heap dx (λU=>none) 0) (b1:F.c.cV.get? dx=none) (b2: ¬Xe F.c dx) (b3:dx∉jU F.du)
  (h: ∀au P s1,BD au fd->P.vs=kX Λ (.ref x::vs)->Un (F.dw fg Λ au) P dx->Ff (F.dw fg Λ au) P r x dx k s1 [] s1->
   wpAny F.M (F.A.deeper au) (execs body au) (λf s'=>f=.next/\ ∃fs,qz k vals fs/\Ff (F.dw fg Λ au) P r x dx k s1 fs s') (λU U=>cC) s1):
  cW F.M F.A (.call (.ref a) ⟨.ref x::vals,[]⟩) (λq s'=>q=.ok (.ret .none)/\yC F k vals dx r s s') s:=by
 refine aU λG9 k9=>?_
 obtain⟨od,es,ep,ed,edd,_⟩:=id hdx
 refine k9 ?_
 have C':Cl F (λb=>H b\/b=dx) r s:=⟨C.wd,⟨C.er.frames,C.er.cE,λb m=>⟨.inl (C.er.apart b m).1,(C.er.apart b m).2⟩,C.er.depth,C.er.units,C.er.handled⟩,λb q=>.inl<|C.hx b q,λb q=>q.elim (C.iu b) λz=>z▸⟨od,ed⟩⟩
 refine mJ O D hK hd hcd hbind hvs C' λau h1 uH En=>?_
 have V:=En.gds (fg:=fg) (uH:=uH) (pn:=none) C' hl (O:=O0) (δ:=[]) BF (λi j b m=>nomatch m) (λv e=>nn e)<|λi p e=>nn e
 refine aq (h au ⟨HO ⟨F.dw fg Λ au,ol (λb=>H b\/b=dx) O0,none⟩ O0,kX Λ<|.ref x::vs,bU []⟩ _ En.of rfl ⟨.inl<|.inr ⟨.inr rfl,λU m=>(nomatch m)⟩,b1,b2,(λm=>(En.fr_ m).elim (λz=>nn<|En.tW.symm.trans<|z▸ed) b3),λl=>nn<|(En.ic l).symm.trans ed⟩ ⟨V.g,⟨_,hdx.keep λo e=>En.keep _ _ e,λU U=>rfl⟩,En.keep _ _ hx,.cm _ _ _,⟨h1,uH,rfl⟩⟩) (λf s' p=>?_) λU U z=>z.elim
 obtain⟨rfl,fs,hf,I⟩:=p
 refine aU λG9 k9=>?_
 obtain⟨m,ho,hm⟩:=I.nF
 refine k9 ?_
 exact⟨rfl,hf,ho,hm,I.g.wd,En.kp I.kp λb o e z=>z,df ⟨h1,uH,rfl⟩ I.same⟩
end
noncomputable abbrev gV(f:av)(p:jt×jt×jt)(e:aX):Stmt:=.Assign [.Attribute (.Name (br gd) p.1) (br<|aO f) p.2.1] e p.2.2
noncomputable abbrev Eo:aa Str:=[br gd,br<|aO 0,br<|aO 1,br<|aO 2]
noncomputable abbrev JX(p0 p1 p2 p3 p4:jt×jt×jt)(q0 q1 q2 q3 q4:jt)(k3 k4:av):aa Stmt:=
 [gV 0 p0<|.Name (br<|aO 0) q0,gV 1 p1<|.Name (br<|aO 1) q1,gV 2 p2<|.Name (br<|aO 2) q2,gV 3 p3<|.Constant (.bool false) k3 q3,gV 4 p4<|.Constant (.bool false) k4 q4]
noncomputable abbrev JY(l:aa av)(p0 p1:jt×jt×jt)(q0 q1:jt)(k0 k1:av):aa Stmt:=[gV 0 p0<|.Constant (.str<|br l) k0 q0,gV 2 p1<|.Constant .none k1 q1]
structure oV(c:Cx)(k:av)(fd:fe)(ps:aa b9)(body:aa d6):Prop where
 D:yL fd ps (ps.map some) body
 K: ∃o,c.K.lookup (c.ue<|1000+k)=some o/\o.data=.func fd
 code:c.cV.CodeRec fd.code fd.qualname
 ic: ∀n∈ps,fd.scope.names.lookup n=some .local
inductive Wj(c:Cx):Prop
 |mk {fd p0 p1 p2 p3 p4 q0 q1 q2 q3 q4 k3 k4} (I:oV c 0 fd Eo (JX p0 p1 p2 p3 p4 q0 q1 q2 q3 q4 k3 k4))
  (b3: ∀(s:af) v0 v1 v2 v3,c.K.In s.heap->qW s fd ⟨[v0,v1,v2,v3],[]⟩ (Eo.zip [v0,v1,v2,v3])) (b2: ∀(s:af) v0 v1 v2,c.K.In s.heap->qW s fd ⟨[v0,v1,v2],[]⟩ (Eo.zip [v0,v1,v2,.none]))
inductive Fh(c:Cx)(k:av)(l:aa av):Prop
 |mk {fd p0 p1 q0 q1 k0 k1} (I:oV c k fd [br gd] (JY l p0 p1 q0 q1 k0 k1)) (b: ∀(s:af) v0,c.K.In s.heap->qW s fd ⟨[v0],[]⟩ ([br gd].zip [v0]))
section
variable{F:Fx}{fd:fe}{ps:aa b9}{body:aa d6}{k fg:av}{P:Pt}{r:Rw}{s:af}{RE:ak->af->Prop}
theorem oV.name(I:oV F.c k fd ps body)(of:BD au fd)(h:ps[j]?=some n)(hd:(n==("__debug__":b9))=false)(hc:(n==("__classdict__":b9))=false):jl (F.dw fg (ps.map some) au) j n:=
 ⟨by show(ps.map some)[j]?=_;rw[bl,h];rfl,.inl (by show au.kindOf n=_;unfold vl;rw[of.sc];exact I.ic n<|bG h),hd,hc⟩
theorem yS(h:eval (.Constant c k p) F.au=pure v):wpAny F.M F.A (eval (.Constant c k p) F.au) (λu s'=>u=v/\ ∃tk,s'={s with toks:=tk}) RE s:=by
 refine aK h ?_
 exact aD ⟨rfl,s.toks,rfl⟩
theorem X3(h:eval (.Constant (.str<|br l) k p) F.au=mkText (br l)):wpAny F.M F.A (eval (.Constant (.str<|br l) k p) F.au) (λu s'=>(∃t,u=.str (br l) t)/\ ∃tk,s'={s with toks:=tk}) RE s:=by
 refine aK h ?_
 exact s9 ⟨⟨_,rfl⟩,s.toks+1,rfl⟩
theorem PZ(O:F.c.Ok)(I:oV F.c 0 fd Eo (JX p0 p1 p2 p3 p4 q0 q1 q2 q3 q4 k3 k4))(of:BD au fd)(hP:P.vs=kX (Eo.map some) [.ref x,vk,vi,va])(gQ:Un (F.dw fg (Eo.map some) au) P dx)(hv:vals=[vk,vi,va]\/(vals=[vk,vi]/\va=.none))
  (J:Ff (F.dw fg (Eo.map some) au) P r x dx 0 s1 [] s1):wpAny F.M (F.A.deeper au) (execs (JX p0 p1 p2 p3 p4 q0 q1 q2 q3 q4 k3 k4) au) (λf s'=>f=.next/\ ∃fs,qz 0 vals fs/\Ff (F.dw fg (Eo.map some) au) P r x dx 0 s1 fs s') (λU U=>cC) s1:=by
 have N0:=I.name (F:=F) (fg:=fg) (j:=0) of rfl (by decide+kernel) (by decide+kernel)
 have N2:=I.name (F:=F) (fg:=fg) (j:=2) of rfl (by decide+kernel) (by decide+kernel)
 have N3:=I.name (F:=F) (fg:=fg) (j:=3) of rfl (by decide+kernel) (by decide+kernel)
 have cx: ∀{j v},[gE x,vk,vi,va][j]?=some v->P.vs[j]?=some (some v):=λh=>hP▸pB h
 refine kY (F:=F.dw fg (Eo.map some) au) O (bD 2) gQ N0 (cx rfl) (by decide) (dY rfl) rfl rfl J (Dc J.g (I.name (F:=F) (fg:=fg) (j:=1) of rfl (by decide+kernel) (by decide+kernel))<|cx rfl) λu s2 e J=>?_
 subst e
 refine kY (F:=F.dw fg (Eo.map some) au) O (bD 2) gQ N0 (cx rfl) (by decide) (dY rfl) rfl rfl J (Dc J.g N2<|cx rfl) λu s2 e J=>?_
 subst e
 refine kY (F:=F.dw fg (Eo.map some) au) O (bD 2) gQ N0 (cx rfl) (by decide) (dY rfl) rfl rfl J (Dc J.g N3<|cx rfl) λu s2 e J=>?_
 subst e
 refine kY (F:=F.dw fg (Eo.map some) au) O (bD 2) gQ N0 (cx rfl) (by decide) (dY rfl) rfl rfl J (yS rfl) λu s2 e J=>?_
 subst e
 refine kY (F:=F.dw fg (Eo.map some) au) O (bD 2) gQ N0 (cx rfl) (by decide) (dY rfl) rfl rfl J (yS rfl) λu s2 e J=>?_
 subst e
 exact iW ⟨rfl,_,⟨_,_,_,hv,rfl⟩,J⟩
theorem P0(O:F.c.Ok)(hk:k<=2)(hl: ∀t,qz k [] [(0,pW (br l) t),(2,.none)])(I:oV F.c k fd [br gd] (JY l p0 p1 q0 q1 k0 k1))(of:BD au fd)(hP:P.vs=kX [some<|br gd] [.ref x])(gQ:Un (F.dw fg [some<|br gd] au) P dx)
  (J:Ff (F.dw fg [some<|br gd] au) P r x dx k s1 [] s1):wpAny F.M (F.A.deeper au) (execs (JY l p0 p1 q0 q1 k0 k1) au) (λf s'=>f=.next/\ ∃fs,qz k [] fs/\Ff (F.dw fg [some<|br gd] au) P r x dx k s1 fs s') (λU U=>cC) s1:=by
 have N0:jl (F.dw fg [some<|br gd] au) 0 (br gd):=I.name (F:=F) (fg:=fg) (j:=0) of rfl (by decide+kernel) (by decide+kernel)
 have Pj:P.vs[0]?=some (some<|.ref x):=hP▸pB rfl
 refine kY (F:=F.dw fg [some<|br gd] au) O hk gQ N0 Pj (by decide) (dY rfl) rfl rfl J (X3 rfl) λu s2 e J=>?_
 obtain⟨t,rfl⟩:=e
 refine kY (F:=F.dw fg [some<|br gd] au) O hk gQ N0 Pj (by decide) (dY rfl) rfl rfl J (yS rfl) λu s2 e J=>?_
 subst e
 exact iW ⟨rfl,_,hl t,J⟩
end
theorem P1(O:c.Ok)(I0:Wj c):lU c 1 0:=λF H r s vs x dx hc hl C hx hdx b1 b2 b3 hn=>by
 subst hc
 obtain⟨I,b3',b2'⟩:=I0
 obtain⟨o,hK,hd⟩:=I.K
 have go: ∀{vk vi va:ak},(vs=[vk,vi,va]\/(vs=[vk,vi]/\va=.none))->(∀s:af,F.c.K.In s.heap->qW s _ ⟨.ref x::vs,[]⟩ (Eo.zip<|.ref x::[vk,vi,va]))->cW F.M F.A (.call (.ref<|F.c.ue<|1000+0) ⟨.ref x::vs,[]⟩) (λq s'=>q=.ok (.ret .none)/\yC F 0 vs dx r s s') s:=λ{vk vi va} hv hb=>
  BG (fg:=0) O I.D hK hd I.code hb rfl hl C hx hdx b1 b2 b3 λau P s1 of hP gQ J=>PZ O I of hP gQ hv J
 rcases hn with h|h
 ·cases vs with
  |nil=>cases h
  |cons vk vs=>
   cases vs with
   |nil=>cases h
   |cons vi vs=>
    cases bY (dc<|dc h)
    exact go (.inr ⟨rfl,rfl⟩) λs K=>b2' s _ _ _ K
 ·cases vs with
  |nil=>cases h
  |cons vk vs=>
   cases vs with
   |nil=>cases h
   |cons vi vs=>
    cases vs with
    |nil=>cases h
    |cons va vs=>
     cases bY (dc<|dc<|dc h)
     exact go (.inl rfl) λs K=>b3' s _ _ _ _ K
theorem Fi(O:c.Ok)(hk:k<=2)(hk1:k≠0)(hl: ∀t,qz k [] [(0,pW (br l) t),(2,.none)])(I0:Fh c k l):lU c 1 k:=λF H r s vs x dx hc hlv C hx hdx b1 b2 b3 hn=>by
 subst hc
 obtain⟨I,b⟩:=I0
 obtain⟨o,hK,hd⟩:=I.K
 have e:vs.length=0:=by
  unfold Bs at hn
  rwa [aN hk1]at hn
 cases bY e
 exact BG (fg:=0) (vs:=[]) O I.D hK hd I.code (λs K=>b s _ K) rfl hlv C hx hdx b1 b2 b3 λau P s1 of hP gQ J=>P0 O hk hl I of hP gQ J
theorem P4(O:c.Ok)(I:Fh c 1 [78,85,76,76]):lU c 1 1:=Fi O (by decide) (by decide) (λt=>⟨t,rfl⟩) I
theorem P5(O:c.Ok)(I:Fh c 2 [109,105,115,115,105,110,103]):lU c 1 2:=Fi O (by decide) (by decide) (λt=>⟨t,rfl⟩) I
section
variable{Z:Zs}{O:av->aa az}{vs:aa (ag ak)}{δ:Sl}{r r1:Rw}{s s1:af}{K:SK}{i j:av}{x y:Dl->Rw->bc DV}{r6:av}
inductive AtO(Z:Zs)(O:av->aa az)(vs:aa (ag ak))(j:av)(d:DV)(s:af)(v:ak)(La:aa az):Prop
 |mk (hv:vs[j]?=some (some v)) (D:ii Z.F.c (HO Z O) s.heap v d La) (l: ∀b∈La,b∈O j)
theorem Uo(V:eK Z O vs δ r s)(e:(δ[j]?.bind id)=some p)(h:(cA p.2||(p.1&&p.2.dN.isSome))=true): ∃v La,AtO Z O vs j p.2 s v La:=by
 obtain⟨e1,e2⟩:=bind_some e
 obtain⟨b,d⟩:=p
 have e1:δ[j]?=some (some (b,d)):=e1.trans<|aE some e2
 cases b with
 |false=>
  obtain⟨v,hv,D⟩:=V.g.nB j d<|gj.mpr e1
  cases d with
  |f=>
   have D:=D.pk
   exact⟨v,[],hv,⟨D,rfl⟩,λU m=>(nomatch m)⟩
  |_=>exact ff h
 |true=>
  obtain⟨v,hv,D⟩:=V.nF j d e1
  have hn:Ct d=none:=by
   cases d with
   |n k fs=>exact ff h
   |_=>rfl
  exact⟨v,O j,hv,D.Hi hn,λU m=>m⟩
theorem T.aa8(O1:Z.F.c.Ok)(I:lU Z.F.c r6 0)(hl:r6<Z.F.lv)(hx:n=Z.F.c.fY 0)(hkd:gp Z.F.au n=true)(hst:[ke,ie].all cD=true)(N:jl Z.F j X)(h1:SE Z.F ke x)(h2:S Z.F VO (eval ie Z.F.au) y):
  T Z (exec (.Return (some<|.Call (.Name n np) [ke,ie,.Name X px] [] pos) rp) Z.F.au) (λδ r=>(x (bU δ) r).fZ λkd r=>(y (bU δ) r).fZ λit r=>dO (δ[j]?.bind id) λp=>if(cA p.2||(p.1&&p.2.dN.isSome))=true then .g (jD kd it p.2) r else .e):=λO vs δ r s K V q=>by
 have p1:=da<|aF.mp hst ke<|.head _
 have p2:=da<|aF.mp hst ie<|.tail _<|.head _
 have st3:[ke,ie,.Name X px].all cD=true:=by
  rw[bw,bw,be,be]at hst ⊢
  exact⟨hst.1,hst.2.1,rfl⟩
 refine jq<|uB O1 (bD 2) hx hkd st3 V.g<|bP p1<|aq (h1.Aw V.g (eY q) λvk kd s1 r1 ck G1 T1 q1=>bP p2<|aq (h2.Aw G1 (eY q1) λvi it s2 r2 ci G2 T2 q2=>?_) (λU U z=>z) λU U p=>(eK.px G1 p).hF (.of T1)<|fq.cm _ _) (λU U z=>z) λU U p=>eK.px V.g p
 refine aU λG9 k9=>?_
 refine bN (ft q2) λp h9=>cK h9 λep q3=>?_
 refine k9 ?_
 by_cases hb:(cA p.2||(p.1&&p.2.dN.isSome))=true
 ·rw[aJ hb]at q3
  refine aU λG9 k9=>?_
  obtain⟨va,La,hv,ca,hLa⟩:=Uo (V.kG T1) ep hb
  refine bN ci λLi h9=>cK h9 λci ni=>?_
  refine k9 ?_
  have gQ: ∀b∈Li++La,¬Xe Z.F.c b/\b∉jU Z.F.du:=λb m=>(cY.mp m).elim (λm=>G1.fr<|ni b m) λm=>⟨(fE V<|hLa b m).1,(fE V<|hLa b m).2.1⟩
  have up: ∀b,HL (H1 Z) (Li++La) b->HL (HO Z O) Li b:=λb q=>q.elim (λq=>.inl<|.inl q) λm=>(cY.mp m).elim .inr λm=>.inl<|.inr ⟨j,hLa b m⟩
  have TN:qR (HO Z O) (HL (H1 Z)<|Li++La) s1.heap:=λb q=>(up b q).imp id<|ni b
  have nd:(Li++La).Nodup:=fJ.mpr ⟨ci.jx.1,ca.jx.1,λa m b m' e=>by
   refine bN (G1.iu b<|.inr ⟨j,hLa b m'⟩) λo z=>?_
   exact nn ((ni a m).symm.trans (e▸z))⟩
  refine bP (tQ _ _)<|N.eval (V.kG<|T1.seq T2) hv<|eu ⟨G2.wd.K O1,aq (CT O1 (bD 2) I hl G2<|.inr rfl) (λv s3 N=>?_) λU U p=>p.elim⟩
  obtain⟨D,n⟩:=N.Em (H:=H1 Z) (λb x=>.inl<|.inr<|.inr x) (λb m=>.inl<|.inl m) gQ (λfs h=>OX h) (ck.aW (G1.g9 T2) TN) (ci.aW (.cm _ _) (.f9 up) λU U U e=>e) (ca.aW (G1.g9 T2) TN λa m o e=>T2.kp.pq a o e (gQ a<|cU _ m).1 (gQ a<|cU _ m).2) nd
  exact .nF (.inr D) (λb m=>(n b m).elim (λe=>.inr<|T1.kp.dp<|T2.kp.dp e) λm=>(cY.mp m).elim (λm=>.inr<|T1.kp.dp<|ni b m) λm=>.inl ⟨j,hLa b m⟩) (.of<|(T1.seq T2).seq N.kG) q3
 ·rw[aN hb]at q3
  exact q3.elim
end
theorem db{p:Prop}[sF p]{f:p->aM}(h:(if h:p then f h else false)=true): ∃h,f h=true:=by
 by_cases q:p
 ·replace h:=((dif_pos q)).symm.trans h
  exact⟨q,h⟩
 ·replace h:=((dif_neg q)).symm.trans h
  exact ff h
noncomputable def JZ{α:Type}(l:aa α)(f:α->aM):Bool:=
 match l with
 |[]=>false
 |a::r=>match r with
  |[]=>f a
  |_::_=>false
noncomputable def NG{α:Type}(l:aa α)(f:α->α->aM):Bool:=
 match l with
 |[]=>false
 |a::r=>JZ r (f a)
theorem i4{α:Type}{m:aa α->Prop}{l}{f}(h:JZ l f=true)(k: ∀a,f a=true->m [a]):m l:=by
 cases l with
 |nil=>exact ff h
 |cons a r=>
  cases r with
  |nil=>exact k a h
  |cons b r=>exact ff h
theorem mv{α:Type}{m:aa α->Prop}{l}{f}(h:NG l f=true)(k: ∀a b,f a b=true->m [a,b]):m l:=by
 cases l with
 |nil=>exact ff h
 |cons a r=>exact i4 (m:=λr=>m (a::r)) h (k a)
noncomputable def Up{α:Type}(o:ag α)(f:α->aM):Bool:=
 match o with
 |none=>false
 |some a=>f a
theorem uI{α:Type}{m:ag α->Prop}{o}{f}(h:Up o f=true)(k: ∀a,f a=true->m (some a)):m o:=by
 cases o with
 |none=>exact ff h
 |some a=>exact k a h
theorem aT(h:(a&&b)=true):a=true/\b=true:=dI.mp h
theorem cL(h:(a&&b)=true):a=true:=(aT h).1
theorem cS(h:(a&&b)=true):b=true:=(aT h).2
theorem BH{G:Prop}(h:(a&&(b&&c))=true)(k:a=true->b=true->c=true->G):G:=k (cL h) (cL<|cS h)<|cS<|cS h
theorem Wk{G:Prop}(h:(a&&(b&&(c&&d)))=true)(k:a=true->b=true->c=true->d=true->G):G:=BH (cS h)<|k<|cL h
theorem P6{G:Prop}(h:(a&&(b&&(c&&(d&&e))))=true)(k:a=true->b=true->c=true->d=true->e=true->G):G:=Wk (cS h)<|k<|cL h
theorem bn6{G:Prop}(h:(a&&(b&&(c&&(d&&(e&&f)))))=true)(k:a=true->b=true->c=true->d=true->e=true->f=true->G):G:=P6 (cS h)<|k<|cL h
theorem bn7{G:Prop}(h:(a&&(b&&(c&&(d&&(e&&(f&&g))))))=true)(k:a=true->b=true->c=true->d=true->e=true->f=true->g=true->G):G:=bn6 (cS h)<|k<|cL h
theorem bn8{G:Prop}(h:(a&&(b&&(c&&(d&&(e&&(f&&(g&&i)))))))=true)(k:a=true->b=true->c=true->d=true->e=true->f=true->g=true->i=true->G):G:=bn7 (cS h)<|k<|cL h
theorem bn9{G:Prop}(h:(a&&(b&&(c&&(d&&(e&&(f&&(g&&(i&&j))))))))=true)(k:a=true->b=true->c=true->d=true->e=true->f=true->g=true->i=true->j=true->G):G:=bn8 (cS h)<|k<|cL h
theorem aeW{G:Prop}(h:(a&&(b&&(c&&(d&&(e&&(f&&(g&&(i&&(j&&l)))))))))=true)(k:a=true->b=true->c=true->d=true->e=true->f=true->g=true->i=true->j=true->l=true->G):G:=bn9 (cS h)<|k<|cL h
theorem aeX{G:Prop}(h:(a&&(b&&(c&&(d&&(e&&(f&&(g&&(i&&(j&&(l&&m))))))))))=true)(k:a=true->b=true->c=true->d=true->e=true->f=true->g=true->i=true->j=true->l=true->m=true->G):G:=aeW (cS h)<|k<|cL h
noncomputable def Fj(e:aX)(f:NS->aa aX->jt->aM):Bool:=if h:e.ctorIdx=0 then @tw (λU=>aM) e h f else false
theorem Dd{m:aX->Prop}{e:aX}{f}(h:Fj e f=true)(k: ∀a b c,f a b c=true->m (.BoolOp a b c)):m e:=by
 refine bN (db h) λh1 h=>?_
 exact @tw (λe=> ∀h1,@tw (λU=>aM) e h1 f=true->m e) e h1 (λa b c U h=>k a b c h) h1 h
noncomputable def J0(e:aX)(f:aX->pX->aX->jt->aM):Bool:=if h:e.ctorIdx=2 then @vc (λU=>aM) e h f else false
theorem Fk{m:aX->Prop}{e:aX}{f}(h:J0 e f=true)(k: ∀a b c d,f a b c d=true->m (.BinOp a b c d)):m e:=by
 refine bN (db h) λh1 h=>?_
 exact @vc (λe=> ∀h1,@vc (λU=>aM) e h1 f=true->m e) e h1 (λa b c d U h=>k a b c d h) h1 h
noncomputable def vV(e:aX)(f:UnaryOp->aX->jt->aM):Bool:=if h:e.ctorIdx=3 then @rU (λU=>aM) e h f else false
theorem sP{m:aX->Prop}{e:aX}{f}(h:vV e f=true)(k: ∀a b c,f a b c=true->m (.UnaryOp a b c)):m e:=by
 refine bN (db h) λh1 h=>?_
 exact @rU (λe=> ∀h1,@rU (λU=>aM) e h1 f=true->m e) e h1 (λa b c U h=>k a b c h) h1 h
noncomputable def Fl(e:aX)(f:Arguments->aX->jB->jt->aM):Bool:=if h:e.ctorIdx=4 then @tt (λU=>aM) e h f else false
theorem De{m:aX->Prop}{e:aX}{f}(h:Fl e f=true)(k: ∀a b c d,f a b c d=true->m (.Lambda a b c d)):m e:=by
 refine bN (db h) λh1 h=>?_
 exact @tt (λe=> ∀h1,@tt (λU=>aM) e h1 f=true->m e) e h1 (λa b c d U h=>k a b c d h) h1 h
noncomputable def J1(e:aX)(f:aX->aX->aX->jt->aM):Bool:=if h:e.ctorIdx=5 then @u9 (λU=>aM) e h f else false
theorem Fm{m:aX->Prop}{e:aX}{f}(h:J1 e f=true)(k: ∀a b c d,f a b c d=true->m (.IfExp a b c d)):m e:=by
 refine bN (db h) λh1 h=>?_
 exact @u9 (λe=> ∀h1,@u9 (λU=>aM) e h1 f=true->m e) e h1 (λa b c d U h=>k a b c d h) h1 h
noncomputable def H3(e:aX)(f:aa (ag aX)->aa aX->jt->aM):Bool:=if h:e.ctorIdx=6 then @w8 (λU=>aM) e h f else false
theorem yT{m:aX->Prop}{e:aX}{f}(h:H3 e f=true)(k: ∀a b c,f a b c=true->m (.Dict a b c)):m e:=by
 refine bN (db h) λh1 h=>?_
 exact @w8 (λe=> ∀h1,@w8 (λU=>aM) e h1 f=true->m e) e h1 (λa b c U h=>k a b c h) h1 h
noncomputable def tY(e:aX)(f:aX->aa xu->jB->jt->aM):Bool:=if h:e.ctorIdx=8 then @ly (λU=>aM) e h f else false
theorem rr{m:aX->Prop}{e:aX}{f}(h:tY e f=true)(k: ∀a b c d,f a b c d=true->m (.ListComp a b c d)):m e:=by
 refine bN (db h) λh1 h=>?_
 exact @ly (λe=> ∀h1,@ly (λU=>aM) e h1 f=true->m e) e h1 (λa b c d U h=>k a b c d h) h1 h
noncomputable def yU(e:aX)(f:aX->aX->aa xu->jB->jt->aM):Bool:=if h:e.ctorIdx=10 then @lz (λU=>aM) e h f else false
theorem yV{m:aX->Prop}{e:aX}{f}(h:yU e f=true)(k: ∀a b c d e,f a b c d e=true->m (.DictComp a b c d e)):m e:=by
 refine bN (db h) λh1 h=>?_
 exact @lz (λe=> ∀h1,@lz (λU=>aM) e h1 f=true->m e) e h1 (λa b c d e U h=>k a b c d e h) h1 h
noncomputable def BI(e:aX)(f:aX->aa CmpOp->aa aX->jt->aM):Bool:=if h:e.ctorIdx=15 then @rV (λU=>aM) e h f else false
theorem AI{m:aX->Prop}{e:aX}{f}(h:BI e f=true)(k: ∀a b c d,f a b c d=true->m (.Compare a b c d)):m e:=by
 refine bN (db h) λh1 h=>?_
 exact @rV (λe=> ∀h1,@rV (λU=>aM) e h1 f=true->m e) e h1 (λa b c d U h=>k a b c d h) h1 h
noncomputable def H4(e:aX)(f:aX->aa aX->aa YX->jt->aM):Bool:=if h:e.ctorIdx=16 then @w9 (λU=>aM) e h f else false
theorem yW{m:aX->Prop}{e:aX}{f}(h:H4 e f=true)(k: ∀a b c d,f a b c d=true->m (.Call a b c d)):m e:=by
 refine bN (db h) λh1 h=>?_
 exact @w9 (λe=> ∀h1,@w9 (λU=>aM) e h1 f=true->m e) e h1 (λa b c d U h=>k a b c d h) h1 h
noncomputable def yX(e:aX)(f:Tb->av->jt->aM):Bool:=if h:e.ctorIdx=19 then @qM (λU=>aM) e h f else false
theorem yY{m:aX->Prop}{e:aX}{f}(h:yX e f=true)(k: ∀a b c,f a b c=true->m (.Constant a b c)):m e:=by
 refine bN (db h) λh1 h=>?_
 exact @qM (λe=> ∀h1,@qM (λU=>aM) e h1 f=true->m e) e h1 (λa b c U h=>k a b c h) h1 h
noncomputable def jP(e:aX)(f:aX->b9->jt->aM):Bool:=if h:e.ctorIdx=20 then @pS (λU=>aM) e h f else false
theorem ij{m:aX->Prop}{e:aX}{f}(h:jP e f=true)(k: ∀a b c,f a b c=true->m (.Attribute a b c)):m e:=by
 refine bN (db h) λh1 h=>?_
 exact @pS (λe=> ∀h1,@pS (λU=>aM) e h1 f=true->m e) e h1 (λa b c U h=>k a b c h) h1 h
noncomputable def oo(e:aX)(f:aX->aX->jt->aM):Bool:=if h:e.ctorIdx=21 then @pR (λU=>aM) e h f else false
theorem lV{m:aX->Prop}{e:aX}{f}(h:oo e f=true)(k: ∀a b c,f a b c=true->m (.Subscript a b c)):m e:=by
 refine bN (db h) λh1 h=>?_
 exact @pR (λe=> ∀h1,@pR (λU=>aM) e h1 f=true->m e) e h1 (λa b c U h=>k a b c h) h1 h
noncomputable def jm(e:aX)(f:b9->jt->aM):Bool:=if h:e.ctorIdx=23 then @qL (λU=>aM) e h f else false
theorem fh{m:aX->Prop}{e:aX}{f}(h:jm e f=true)(k: ∀a b,f a b=true->m (.Name a b)):m e:=by
 refine bN (db h) λh1 h=>?_
 exact @qL (λe=> ∀h1,@qL (λU=>aM) e h1 f=true->m e) e h1 (λa b U h=>k a b h) h1 h
noncomputable def P7(e:aX)(f:aa aX->jt->aM):Bool:=if h:e.ctorIdx=24 then @w7 (λU=>aM) e h f else false
theorem H5{m:aX->Prop}{e:aX}{f}(h:P7 e f=true)(k: ∀a b,f a b=true->m (.List a b)):m e:=by
 refine bN (db h) λh1 h=>?_
 exact @w7 (λe=> ∀h1,@w7 (λU=>aM) e h1 f=true->m e) e h1 (λa b U h=>k a b h) h1 h
noncomputable def sj(e:aX)(f:aa aX->av->jt->aM):Bool:=if h:e.ctorIdx=25 then @u7 (λU=>aM) e h f else false
theorem lA{m:aX->Prop}{e:aX}{f}(h:sj e f=true)(k: ∀a b c,f a b c=true->m (.Tuple a b c)):m e:=by
 refine bN (db h) λh1 h=>?_
 exact @u7 (λe=> ∀h1,@u7 (λU=>aM) e h1 f=true->m e) e h1 (λa b c U h=>k a b c h) h1 h
noncomputable def J2(e:aX)(f:ag aX->ag aX->ag aX->jt->aM):Bool:=if h:e.ctorIdx=26 then @u8 (λU=>aM) e h f else false
theorem Fo{m:aX->Prop}{e:aX}{f}(h:J2 e f=true)(k: ∀a b c d,f a b c d=true->m (.Slice a b c d)):m e:=by
 refine bN (db h) λh1 h=>?_
 exact @u8 (λe=> ∀h1,@u8 (λU=>aM) e h1 f=true->m e) e h1 (λa b c d U h=>k a b c d h) h1 h
noncomputable def Fp(e:d6)(f:ag aX->jt->aM):Bool:=if h:e.ctorIdx=3 then @ti (λU=>aM) e h f else false
theorem Df{m:d6->Prop}{e:d6}{f}(h:Fp e f=true)(k: ∀a b,f a b=true->m (.Return a b)):m e:=by
 refine bN (db h) λh1 h=>?_
 exact @ti (λe=> ∀h1,@ti (λU=>aM) e h1 f=true->m e) e h1 (λa b U h=>k a b h) h1 h
noncomputable def yZ(e:d6)(f:aa aX->aX->jt->aM):Bool:=if h:e.ctorIdx=5 then @tj (λU=>aM) e h f else false
theorem uJ{m:d6->Prop}{e:d6}{f}(h:yZ e f=true)(k: ∀a b c,f a b c=true->m (.Assign a b c)):m e:=by
 refine bN (db h) λh1 h=>?_
 exact @tj (λe=> ∀h1,@tj (λU=>aM) e h1 f=true->m e) e h1 (λa b c U h=>k a b c h) h1 h
noncomputable def wL(e:d6)(f:aX->pX->aX->jt->aM):Bool:=if h:e.ctorIdx=7 then @pQ (λU=>aM) e h f else false
theorem xh{m:d6->Prop}{e:d6}{f}(h:wL e f=true)(k: ∀a b c d,f a b c d=true->m (.AugAssign a b c d)):m e:=by
 refine bN (db h) λh1 h=>?_
 exact @pQ (λe=> ∀h1,@pQ (λU=>aM) e h1 f=true->m e) e h1 (λa b c d U h=>k a b c d h) h1 h
noncomputable def J3(e:d6)(f:aX->aX->aa d6->aa d6->jt->aM):Bool:=if h:e.ctorIdx=9 then @Ab (λU=>aM) e h f else false
theorem vW{m:d6->Prop}{e:d6}{f}(h:J3 e f=true)(k: ∀a b c d e,f a b c d e=true->m (.For a b c d e)):m e:=by
 refine bN (db h) λh1 h=>?_
 exact @Ab (λe=> ∀h1,@Ab (λU=>aM) e h1 f=true->m e) e h1 (λa b c d e U h=>k a b c d e h) h1 h
noncomputable def J4(e:d6)(f:aX->aa d6->aa d6->jt->aM):Bool:=if h:e.ctorIdx=11 then @uZ (λU=>aM) e h f else false
theorem Fq{m:d6->Prop}{e:d6}{f}(h:J4 e f=true)(k: ∀a b c d,f a b c d=true->m (.While a b c d)):m e:=by
 refine bN (db h) λh1 h=>?_
 exact @uZ (λe=> ∀h1,@uZ (λU=>aM) e h1 f=true->m e) e h1 (λa b c d U h=>k a b c d h) h1 h
noncomputable def abb(e:d6)(f:aX->aa d6->aa d6->jt->aM):Bool:=if h:e.ctorIdx=12 then @Cg (λU=>aM) e h f else false
theorem P8{m:d6->Prop}{e:d6}{f}(h:abb e f=true)(k: ∀a b c d,f a b c d=true->m (.If a b c d)):m e:=by
 refine bN (db h) λh1 h=>?_
 exact @Cg (λe=> ∀h1,@Cg (λU=>aM) e h1 f=true->m e) e h1 (λa b c d U h=>k a b c d h) h1 h
noncomputable def J5(e:d6)(f:ag aX->ag aX->jt->aM):Bool:=if h:e.ctorIdx=16 then @u6 (λU=>aM) e h f else false
theorem Fs{m:d6->Prop}{e:d6}{f}(h:J5 e f=true)(k: ∀a b c,f a b c=true->m (.Raise a b c)):m e:=by
 refine bN (db h) λh1 h=>?_
 exact @u6 (λe=> ∀h1,@u6 (λU=>aM) e h1 f=true->m e) e h1 (λa b c U h=>k a b c h) h1 h
noncomputable def P9(e:d6)(f:aX->jt->aM):Bool:=if h:e.ctorIdx=24 then @w6 (λU=>aM) e h f else false
theorem H6{m:d6->Prop}{e:d6}{f}(h:P9 e f=true)(k: ∀a b,f a b=true->m (.Expr a b)):m e:=by
 refine bN (db h) λh1 h=>?_
 exact @w6 (λe=> ∀h1,@w6 (λU=>aM) e h1 f=true->m e) e h1 (λa b U h=>k a b h) h1 h
noncomputable def Qa(e:d6)(f:jt->aM):Bool:=if h:e.ctorIdx=25 then @w5 (λU=>aM) e h f else false
theorem H7{m:d6->Prop}{e:d6}{f}(h:Qa e f=true)(k: ∀a,f a=true->m (.Pass a)):m e:=by
 refine bN (db h) λh1 h=>?_
 exact @w5 (λe=> ∀h1,@w5 (λU=>aM) e h1 f=true->m e) e h1 (λa U h=>k a h) h1 h
noncomputable abbrev Nm:=aa<|b9×eB
structure Ev where
 fg:av
 nm:Nm
 Λ:aa (ag b9)
 g:aM
structure Sg where
 iG:av->b9
 fY:av->b9
 Cw:av
 lv:av->av
 kf:av
noncomputable def iL(v:Ev)(x:b9):Bool:=v.nm.lookup x==some .globalImplicit&& !(x==("__debug__":b9))
noncomputable def Qb(v:Ev)(i:av)(x:b9):Bool:=v.Λ[i]?==some (some x)&&((v.nm.lookup x==some .local||(v.nm.lookup x==some .cell||v.nm.lookup x==some .free))&&(!(x==("__debug__":b9))&& !(x==("__classdict__":b9))))
noncomputable def vX(v:Ev)(i:av)(x:b9):Bool:=v.Λ[i]?==some (some x)&&(v.nm.lookup x==some .local||v.nm.lookup x==some .cell)
noncomputable def Dg(a:Arguments):Bool:=a.posonlyargs.isEmpty&&a.args.isEmpty&&a.vararg.isNone&&a.kwonlyargs.isEmpty&&a.kw_defaults.isEmpty&&a.kwarg.isNone&&a.defaults.isEmpty
noncomputable def H8(nm:Nm)(sc:jB):Bool:=
 sc.names.all (λp=>p.2 !=.free||nm.lookup p.1==some .cell)&&(decide (sc.names.map<|λx=>x.1).Nodup&&(sc.names.all (λp=>p.2 !=.cell)&&sc.kind==.function))
noncomputable def J6(v:Ev)(sc:jB)(i:av)(x:b9):Bool:=H8 v.nm sc&&(decide (i<v.Λ.length)&&sc.names.lookup x==some .local)
noncomputable def wM(nm names:Nm):Nm:=names.map λp=>if(p.2==.free&&nm.lookup p.1==some .cell)=true then(p.1,.cell) else p
noncomputable def Ev.fI(v:Ev)(sc:jB)(i:av)(x:b9):Ev:=⟨v.fg,wM v.nm sc.names,dg v.Λ sc.names i x,false⟩
noncomputable def Ev.gU(v:Ev)(sc:jB)(i j:av)(x y:b9):Ev:=⟨v.fg,wM v.nm sc.names,gw v.Λ sc.names i j x y,false⟩
noncomputable def Ev.lam(v:Ev)(sc:jB):Ev:=⟨v.fg - 2,sc.names,sO v.Λ sc.names,false⟩
noncomputable def Dh(e:aX):Bool:=e.ctorIdx !=7
noncomputable def NH(c:Tb)(e:aX):Bool:=yX e λd U U=>decide<|d=c
noncomputable def Qc{κ:Type}(f:κ->Tb)(os:aa (ag aX))(ks:aa κ):Bool:=decide (os.length=ks.length)&&(os.zip ks).all λp=>Up p.1<|NH<|f p.2
noncomputable def aeZ(l:aa av):Const:=.str<|br l
noncomputable def vY(e:aX)(f:b9->aa aX->aM):Bool:=H4 e λc args kws U=>kws.isEmpty&&jm c λx U=>f x args
noncomputable def Uq(e:aX)(f:aX->b9->aa aX->aM):Bool:=H4 e λc args kws p=>kws.isEmpty&&jP c λq x p1=>(p1.endLine==p.line)&&f q x args
noncomputable def J7(e:aX)(f:aX->ag aX->ag aX->aM):Bool:=oo e λa b U=>vK a&&J2 b λlo up st U=>st.isNone&&f a lo up
noncomputable def uK(gs:aa xu)(f:b9->aX->aa aX->aM):Bool:=JZ gs λg=>g.is_async==0&&jm g.target λx U=>Dh g.iter&&f x g.iter g.ifs
section
variable(S:Sg)
mutual
noncomputable def fD:Ex->Ev->aX->aM
 |.o,_,e=>NH .none e
 |.N4,_,e=>NH (.bool true) e
 |.ED,_,e=>NH (.bool false) e
 |.d i,_,e=>NH (.int i) e
 |.g l,_,e=>NH (.str (br l)) e
 |.b i,v,e=>jm e λx U=>Qb v i x
 |.i op a b,v,e=>J0 e λl o r U=>decide (o=op)&&(fD a v l&&fD b v r)
 |.C a,v,e=>vV e λo x U=>decide (o=.USub)&&fD a v x
 |.E a,v,e=>vV e λo x U=>decide (o=.Not)&&fD a v x
 |.q op es,v,e=>Fj e λo vs U=>decide (o=op)&&pC es v vs
 |.f op a b,v,e=>BI e λl os rs U=>JZ os λo=>decide (o=op)&&JZ rs λr=>cD r&&(fD a v l&&fD b v r)
 |.w t b e',v,e=>J1 e λx y z U=>fD t v x&&(fD b v y&&fD e' v z)
 |.h f es,v,e=>vY e λx args=> !(rf f)&&(decide (f<S.Cw)&&(x==S.iG f&&(iL v x&&(decide (S.lv f<=v.fg)&&pC es v args))))
 |.A k es,v,e=>vY e λx args=>decide (k<=2)&&(x==S.fY k&&(iL v x&&(decide (1<v.fg)&&pC es v args)))
 |.k b es,v,e=>vY e λx args=>iL v x&&match b with
   |.lT=>x==("list":b9)&&JZ args λa=>vY a λy as=>y==("range":b9)&&(iL v y&&(JZ as λU=>true)&&pC es v as)
   |.wA=>x==("isinstance":b9)&&NG args λa t=>jm t λy U=>y==S.fY 0&&(iL v y&&pC es v [a])
   |.isStr=>x==("isinstance":b9)&&NG args λa t=>jm t λy U=>y==("str":b9)&&(iL v y&&pC es v [a])
   |b=>x==CJ b&&pC es v args
 |.p m o es,v,e=>Uq e λq x args=>x==uz m&&(mY q&&(decide (args.length<20)&&(fD o v q&&pC es v args)))
 |.D f o,v,e=>Uq e λq x args=>args.isEmpty&&(decide (f=2000)&&(x==br (aO 5)&&(mY q&&(decide (S.lv 2000<=v.fg)&&fD o v q))))
 |.l o f,v,e=>jP e λq x U=>x==br (aO f)&&(mY q&&fD o v q)
 |.m o i,v,e=>oo e λa b U=>cD b&&(fD o v a&&fD i v b)
 |.tG o hi,v,e=>J7 e λa lo up=>lo.isNone&&Up up λb=>fD o v a&&fD hi v b
 |.vz o hi,v,e=>J7 e λa lo up=>lo.isNone&&Up up λb=>fD o v a&&fD hi v b
 |.vA o lo',v,e=>J7 e λa lo up=>up.isNone&&Up lo λb=>fD o v a&&fD lo' v b
 |.r es,v,e=>P7 e λelts U=>pC es v elts
 |.t es,v,e=>sj e λelts U U=>pC es v elts
 |.F ks es,v,e=>H3 e λgP vals U=>decide (gP.length<=15)&&(decide ks.Nodup&&(decide (vals.length=ks.length)&&(Qc aeZ gP ks&&pC es v vals)))
 |.qa ks es,v,e=>H3 e λgP vals U=>decide (gP.length<=15)&&(decide ks.Nodup&&(decide (vals.length=ks.length)&&(Qc Const.int gP ks&&pC es v vals)))
 |.v elt i it Bb,v,e=>tY e λel gs sc U=>uK gs λx iter ifs=>J6 v sc i x&&(Mk it v iter&&(pC Bb (v.fI sc i x) ifs&&fD elt (v.fI sc i x) el))
 |.mT elt i it j tH,v,e=>tY e λel gs sc U=>match gs with
   |[]=>false
   |g1::gs=>uK [g1] λx iter ifs=>ifs.isEmpty&&uK gs λy Qd X4=>X4.isEmpty&&(J6 v sc i x&&(decide (j<v.Λ.length)&&(decide (i≠j)&&(sc.names.lookup y==some .local&&(!(x==y)&&(Mk it v iter&&(Mk tH (v.gU sc i j x y) Qd&&fD elt (v.gU sc i j x y) el)))))))
 |.G k w i it,v,e=>yU e λkx vx gs sc U=>uK gs λx iter ifs=>ifs.isEmpty&&(J6 v sc i x&&(Mk it v iter&&(fD k (v.fI sc i x) kx&&fD w (v.fI sc i x) vx)))
 |.H b,v,e=>vY e λx args=>v.g&&(x==S.iG S.kf&&(iL v x&&JZ args λa=>Fl a λar body sc U=>Dg ar&&(H8 v.nm sc&&(!sc.isCoroutine&&(!sc.isGenerator&&(decide (2<=v.fg)&&fD b (v.lam sc) body))))))
 |.B,_,_=>true
noncomputable def pC:n8->Ev->aa aX->aM
 |.b,_,l=>l.isEmpty
 |.a e es,v,l=>match l with
  |[]=>false
  |a::as=>cD a&&(fD e v a&&pC es v as)
noncomputable def Mk:It->Ev->aX->aM
 |.a x,v,e=>fD x v e
 |.b es,v,e=>vY e λx args=>x==("range":b9)&&(iL v x&&pC es v args)
end
end
structure World(c:Cx)(S:Sg)(ct:av->aa DV->Rw->bc DV):Prop where
 ok:c.Ok
 x:vU c
 xi:yM c
 lm:Fb c
 kp:HY c S.kf
 iG:c.iG=S.iG
 fY:c.fY=S.fY
 Cw:c.Cw=S.Cw
 call: ∀f,rf f=false->mZ c (S.lv f) (.ref<|c.ue f) VD (ct f)
 Wl: ∀f,tJ f=true->mZ c (S.lv f) (.ref<|c.ue f) VW (ct f)
 ae0: ∀f,rf f=true->JV c (S.lv f) (.ref<|c.ue f) (ct f)
 rq: ∀k,k<=2->lU c 1 k
structure jn(F:Fx)(v:Ev):Prop where
 lv:F.lv=v.fg
 nm:F.au.scope.names=v.nm
 kind:F.au.scope.kind=.function
 Λ:F.Λ=v.Λ
 g:v.g=true->F.au.code=.ref F.c.code/\F.au.qual++"<lambda>"=F.c.nP
noncomputable def qg:Ex->aM
 |.v _ _ _ _=>true
 |.G _ _ _ _=>true
 |_=>false
structure qS(F:Fx)(ct:av->aa DV->Rw->bc DV)(ex:Ex)(e:aX):Prop where
 se:SE F e (dv ct ex)
 sb:SB F (jX e F.au<|eval e F.au) (gi ct ex)
 so:tK ex=true->S F VO (eval e F.au) (dv ct ex)
 sw:ur ex=true->S F VW (eval e F.au) (dv ct ex)
 as:qg ex=true-> ∀{y:b9} {py pos:jt} {j:av},dB e (some<|.Name y py) pos.line F.au=pure true->F.Λ[j]?=some (some y)->(F.au.kindOf y=some .local\/F.au.kindOf y=some .cell)->Bw VO F j (exec (.Assign [.Name y py] e pos) F.au) (dv ct ex)
class inductive Dj (F:Fx) (ct:av->aa DV->Rw->bc DV):n8->aa aX->Prop
 |nil:Dj F ct .b []
 |cons {ex es e l} (p:cD e=true) (h:qS F ct ex e) (r:Dj F ct es l):Dj F ct (.a ex es) (e::l)
structure IOk(F:Fx)(ct:av->aa DV->Rw->bc DV)(it:It)(e:aX):Prop where
 si:SI F e (Au ct it)
section
variable{c:Cx}{sg:Sg}{ct:av->aa DV->Rw->bc DV}{F:Fx}{v:Ev}{e:aX}{ex:Ex}{es:n8}{l:aa aX}
theorem jn.Ur(K:jn F v)(y:b9):F.au.kindOf y=v.nm.lookup y:=by unfold vl;rw[K.nm]
theorem jn.iL(K:jn F v)(h:iL v x=true):gp F.au x=true:=by unfold gp;rw[K.Ur];exact h
theorem jn.slot(K:jn F v)(h:Qb v i x=true):jl F i x:=by
 refine Wk h λh1 h2 h3 h4=>?_
 refine⟨K.Λ▸eq_of_beq h1,?_,by simpa using h3,by simpa using h4⟩
 rw[K.Ur]
 exact(aZ.mp h2).imp eq_of_beq λh=>(aZ.mp h).imp eq_of_beq eq_of_beq
theorem lk{m:aX->Prop}{c}(h:NH c e=true)(k: ∀n p,m<|.Constant c n p):m e:=
 yY h λd n p h=>by rw[ah h];exact k n p
theorem gy{m:aX->Prop}(h:vY e f=true)(k: ∀x np args p,f x args=true->m (.Call (.Name x np) args [] p)):m e:=
 yW h λc args kws p h=>by
  have h1:=cL h
  have h:=cS h
  cases kws with
  |nil=>exact fh (m:=λc=>m<|.Call c args [] p) h λx np h=>k x np args p h
  |cons=>exact ff h1
theorem y3{m:aX->Prop}(h:Uq e f=true)(k: ∀q x p1 args p,(p1.endLine==p.line)=true->f q x args=true->m (.Call (.Attribute q x p1) args [] p)):m e:=
 yW h λc args kws p h=>by
  have h1:=cL h
  have h:=cS h
  cases kws with
  |nil=>
   refine ij (m:=λc=>m<|.Call c args [] p) h λq x p1 h=>?_
   have h2:=cL h
   have h:=cS h
   exact k q x p1 args p h2 h
  |cons=>exact ff h1
theorem vZ{m:aX->Prop}(h:J7 e f=true)(k: ∀a lo up p1 p,vK a=true->f a lo up=true->m (.Subscript a (.Slice lo up none p1) p)):m e:=
 lV h λa b p h=>by
  have h1:=cL h
  have h:=cS h
  refine Fo (m:=λb=>m<|.Subscript a b p) h λlo up st p1 h=>?_
  have h:=cS h
  cases st with
  |none=>exact k a lo up p1 p h1 h
  |some _=>exact ff<|cL h
theorem oq{m:aa xu->Prop}(h:uK gs f=true)(k: ∀x px iter ifs,Dh iter=true->f x iter ifs=true->m [⟨.Name x px,iter,ifs,0⟩]):m gs:=
 i4 h λg h=>by
  obtain⟨t,iter,ifs,a⟩:=g
  have h1:=cL h
  have h:=cS h
  cases eq_of_beq h1
  refine fh (m:=λt=>m [⟨t,iter,ifs,0⟩]) h λx px h=>?_
  have h2:=cL h
  have h:=cS h
  exact k x px iter ifs h2 h
theorem bc.Qe{α β γ:Type}{x:bc α}{f:α->Rw->bc β}{g:β->Rw->bc γ}:(x.bind f).bind g=x.bind λa r=>(f a r).bind g:=by cases x<;>rfl
theorem qS.of(se:SE F e (dv ct ex))(nb: ∀δ r,gi ct ex δ r=.d)(h1:tK ex=false)(h2:ur ex=false)(h3:qg ex=false):qS F ct ex e:=
 ⟨se,λP r s Q E G q=>by rw[nb]at q;exact q.elim,λh=>ff<|h1.symm.trans h,λh=>ff<|h2.symm.trans h,λh=>ff<|h3.symm.trans h⟩
theorem qS.tru(se:SE F e (dv ct ex))(sb:SB F (jX e F.au<|eval e F.au) (gi ct ex))(h1:tK ex=false)(h2:ur ex=false)(h3:qg ex=false):qS F ct ex e:=
 ⟨se,sb,λh=>ff<|h1.symm.trans h,λh=>ff<|h2.symm.trans h,λh=>ff<|h3.symm.trans h⟩
theorem qS.lit(so:S F VO (eval e F.au) (dv ct ex))(nb: ∀δ r,gi ct ex δ r=.d)(h3:qg ex=false):qS F ct ex e:=
 ⟨so.nF,λP r s Q E G q=>by rw[nb]at q;exact q.elim,λU=>so,λU=>so.yf,λh=>ff<|h3.symm.trans h⟩
theorem SB.val(he:jX e F.au (eval e F.au)=(do let v ←eval e F.au;jS e.pos;jr [v] (WI v)))(se:SE F e (dv ct ex))(hb: ∀δ r,x δ r=(dv ct ex δ r).bind λv r=>bc.fG (j3 v) r):SB F (jX e F.au<|eval e F.au) x:=
 funext (λδ=>funext λr=>(hb δ r).symm)▸SB.eM he se
theorem Dj.plain(h:Dj F ct es l):l.all cD=true:=by
 induction h with
 |nil=>rfl
 |cons p _ _ ih=>rw[bw,p,ih];rfl
theorem Dj.sl(h:Dj F ct es l):SL F pos l (mE ct es):=by
 induction h with
 |nil=>exact .nil
 |cons p h _ ih=>exact .cons (da p) h.se ih
theorem Dj.all(h:Dj F ct es l):SB F (NP op l F.au) (Lq ct op es):=by
 induction h with
 |nil=>exact .nil
 |cons p h _ ih=>cases op<;>exact .cons h.sb ih
theorem Dj.Bb(h:Dj F ct es l):SB F (lj l F.au) (Y6 ct es):=by
 induction h with
 |nil=>exact .LU
 |cons p h _ ih=>exact .HM h.sb ih
theorem Dj.bool(h:Dj F ct es l):SE F (.BoolOp op l pos) (dvo ct op es):=by
 induction h with
 |nil=>exact λP r s Q E G q=>q.elim
 |@cons ex es e l p h r ih=>
  cases r with
  |nil=>exact h.se
  |cons p2 h2 r2=>cases op<;>exact .Z0 h.se ih
theorem Dj.jx(h:Dj F ct es [a]): ∃ex,es=.a ex .b/\cD a=true/\qS F ct ex a:=by
 obtain _|⟨p,h,r⟩:=h
 obtain _|_:=r
 exact⟨_,rfl,p,h⟩
end
section
variable{c:Cx}{sg:Sg}{ct:av->aa DV->Rw->bc DV}
def cF(sg:Sg)(ct:av->aa DV->Rw->bc DV)(ex:Ex):Prop:= ∀F v e,World F.c sg ct->jn F v->fD sg ex v e=true->qS F ct ex e
def kK(sg:Sg)(ct:av->aa DV->Rw->bc DV)(es:n8):Prop:= ∀F v l,World F.c sg ct->jn F v->pC sg es v l=true->Dj F ct es l
def y4(sg:Sg)(ct:av->aa DV->Rw->bc DV)(it:It):Prop:= ∀F v e,World F.c sg ct->jn F v->Mk sg it v e=true->IOk F ct it e
theorem J8(h:mY o=true):eval (.Attribute o x pos) au=(do
   let v ←eval o au
   jS pos.atName
   let r ←jr [v] (te v x true)
   pV o v r
   pure r):=by
 rw[arm_eval_Attribute,gT h]
theorem J9:cF sg ct .o:=λF v e W K h=>lk h λn p=>.of (.Oj rfl λU U U=>.none) (λU U=>rfl) rfl rfl rfl
theorem Wm:cF sg ct .N4:=λF v e W K h=>lk h λn p=>.of (.Oj rfl λU U U=>.bool true) (λU U=>rfl) rfl rfl rfl
theorem Wn:cF sg ct .ED:=λF v e W K h=>lk h λn p=>.of (.Oj rfl λU U U=>.bool false) (λU U=>rfl) rfl rfl rfl
theorem Qf(i:aL):cF sg ct (.d i):=λF v e W K h=>lk h λn p=>.of (.mkInt i) (λU U=>rfl) rfl rfl rfl
theorem Qg(l:aa av):cF sg ct (.g l):=λF v e W K h=>lk h λn p=>.of (.mkText l) (λU U=>rfl) rfl rfl rfl
theorem H9:bc.fG ((fM δ i).bind j3) r=(bc.fG (fM δ i) r).bind λv r=>bc.fG (j3 v) r:=by cases fM δ i<;>rfl
theorem Ka(i:av):cF sg ct (.b i):=λF v e W K h=>fh h λx p h=>by
 have N:=K.slot h
 have se:SE F (.Name x p) (dv ct<|.b i):=.slot N.gv N.hk N.hd N.hc
 exact .tru se (.val rfl se λδ r=>H9) rfl rfl rfl
theorem Qh(op a b)(ha:cF sg ct a)(hb:cF sg ct b):cF sg ct (.i op a b):=λF v e W K h=>Fk h λl o r p h=>by
 refine BH h λh1 h2 h3=>?_
 refine aK (ah h1) ?_
 exact .of (.bin (ha F v l W K h2).se (hb F v r W K h3).se) (λU U=>rfl) rfl rfl rfl
theorem Qi(a)(ha:cF sg ct a):cF sg ct (.C a):=λF v e W K h=>sP h λo x p h=>by
 have h2:=cS h
 refine aK (ah<|cL h) ?_
 exact .of (.neg (ha F v x W K h2).se) (λU U=>rfl) rfl rfl rfl
theorem Qj(a)(ha:cF sg ct a):cF sg ct (.E a):=λF v e W K h=>sP h λo x p h=>by
 have h2:=cS h
 refine aK (ah<|cL h) ?_
 have A:=ha F v x W K h2
 exact .tru (.not A.se) (.not A.sb) rfl rfl rfl
theorem Ft(op es)(hs:kK sg ct es):cF sg ct (.q op es):=λF v e W K h=>Dd h λo vs p h=>by
 have h2:=cS h
 refine aK (ah<|cL h) ?_
 have A:=hs F v vs W K h2
 exact .tru A.bool (.ZZ A.all) rfl rfl rfl
theorem Qk(op a b)(ha:cF sg ct a)(hb:cF sg ct b):cF sg ct (.f op a b):=λF v e W K h=>AI h λl os rs p h=>i4 (m:=λos=>qS F ct (.f op a b)<|.Compare l os rs p) h λo h=>by
 have h2:=cS h
 refine aK (ah<|cL h) ?_
 refine i4 (m:=λrs=>qS F ct (.f op a b)<|.Compare l [op] rs p) h2 λr h=>?_
 have h3:=cL h
 have h4:=cS h
 have h6:=cS h4
 have A:=(ha F v l W K<|cL h4).se
 have B:=(hb F v r W K h6).se
 exact .tru (.cmp (da h3) A B) (.cmp (da h3) A B) rfl rfl rfl
theorem Ql(t a b)(ht:cF sg ct t)(ha:cF sg ct a)(hb:cF sg ct b):cF sg ct (.w t a b):=λF v e W K h=>Fm h λx y z p h=>by
 refine BH h λh1 h2 h3=>?_
 exact .of (.ite (ht F v x W K h1).sb (ha F v y W K h2).se (hb F v z W K h3).se) (λU U=>rfl) rfl rfl rfl
theorem Kb(f es)(hs:kK sg ct es):cF sg ct (.h f es):=λF v e W K h=>gy h λx np args p h=>by
 refine bn6 h λh0 h1 h2 h3 h4 h5=>?_
 have L:=hs F v args W K h5
 have hl:sg.lv f<=F.lv:=K.lv▸ah h4
 have hf:f<F.c.Cw:=W.Cw▸ah h1
 have hx:x=F.c.iG f:=W.iG▸eq_of_beq h2
 have se:SE F (.Call (.Name x np) args [] p) (dv ct<|.h f es):=.call W.ok (W.call f (by simpa using h0)) hl JK hf hx (K.iL h3) L.plain L.sl
 exact⟨se,.val rfl se λδ r=>bc.Qe.symm,λz=>ff z,λz=>.call W.ok (W.Wl f z) hl CN hf hx (K.iL h3) L.plain L.sl,λz=>ff z⟩
inductive X5(F:Fx)(ct:av->aa DV->Rw->bc DV):n8->aa aX->Prop
 |two {a b x y} (A:SE F x (dv ct a)) (B:S F VO (eval y F.au) (dv ct b)):X5 F ct (.a a (.a b .b)) [x,y]
 |EB {a b d x y z} (A:SE F x (dv ct a)) (B:S F VO (eval y F.au) (dv ct b)) (C:S F VO (eval z F.au) (dv ct d)):X5 F ct (.a a (.a b (.a d .b))) [x,y,z]
theorem Dj.new(L:Dj F ct es l)(z:N9 es=true):X5 F ct es l:=by
 cases L with
 |nil=>exact ff z
 |cons _ A L=>
  cases L with
  |nil=>exact ff z
  |cons _ B L=>
   have z1:=cL z
   have z:=cS z
   cases L with
   |nil=>exact .two A.se<|B.so z1
   |cons _ C L=>
    have z2:=cL z
    have z:=cS z
    cases L with
    |nil=>exact .EB A.se (B.so z1)<|C.so z2
    |cons=>exact ff z
theorem Qm(k es)(hs:kK sg ct es):cF sg ct (.A k es):=λF v e W K h=>gy h λx np args p h=>by
 refine P6 h λh1 h2 h3 h4 h5=>?_
 have L:=hs F v args W K h5
 have hk:=ah h1
 have hl:1<F.lv:=K.lv▸ah h4
 have hx:x=F.c.fY k:=W.fY▸eq_of_beq h2
 refine⟨.new W.ok hk (W.rq k hk) hl hx (K.iL h3) L.plain L.sl,λP r s Q E G q=>q.elim,λz=>ff z,λz=>?_,λz=>ff z⟩
 have z1:=cL z
 have z:=cS z
 cases eq_of_beq z1
 have pl:=L.plain
 cases L.new z with
 |two A B=>exact .Xq W.ok (W.rq 0 hk) hl hx (K.iL h3) pl A B
 |EB A B C=>exact .aej W.ok (W.rq 0 hk) hl hx (K.iL h3) pl A B C
end
section
variable{c:Cx}{sg:Sg}{ct:av->aa DV->Rw->bc DV}
theorem Qn{x:bc DV}{f:DV->ag DV}:((x.bind λv r=>(bc.c ([]:aa DV) r).bind λvs r=>.c (v::vs) r).bind λvs r=>bc.fG (jx vs f) r)=x.bind λv r=>bc.fG (f v) r:=by cases x<;>rfl
theorem SE.Wo{F e ex f}(h:SE F e (λδ r=>(dv ct ex δ r).bind λv r=>bc.fG (f v) r)):SE F e (λδ r=>(mE ct (.a ex .b) δ r).bind λvs r=>bc.fG (jx vs f) r):=λP r s Q E G q=>h P r s Q E G (by
 have e:((mE ct (.a ex .b) P.δ r).bind λvs r=>bc.fG (jx vs f) r)=(dv ct ex P.δ r).bind λv r=>bc.fG (f v) r:=Qn
 exact(aE (λx=>bc.wp x Q E) e).mp q)
noncomputable abbrev B3(F:Fx)(ct:av->aa DV->Rw->bc DV)(b:Bi)(es:n8)(e:aX):Prop:=SE F e (dv ct<|.k b es)/\(tK (.k b es)=true->S F VO (eval e F.au) (dv ct<|.k b es))/\jX e F.au (eval e F.au)=(do let v ←eval e F.au;jS e.pos;jr [v] (WI v))
theorem X6(b es)(hs:kK sg ct es)(W:World F.c sg ct)(K:jn F v)(h:fD sg (.k b es) v e=true):B3 F ct b es e:=gy (m:=λe=>B3 F ct b es e) h λx np args p h=>by
 have h1:=cL h
 have h:=cS h
 have hk:=K.iL h1
 have gen:JG b=true->(x==CJ b&&pC sg es v args)=true->B3 F ct b es (.Call (.Name x np) args [] p):=λhp h=>by
  have h2:=cL h
  have h3:=cS h
  have L:=hs F v args W K h3
  refine⟨.bi W.ok hp (eq_of_beq h2) hk L.plain L.sl,λz=>.biO W.ok ?_ (eq_of_beq h2) hk L.plain L.sl,rfl⟩
  cases b with
  |list=>exact .inl rfl
  |dict=>exact .inr rfl
  |_=>exact ff z
 have isi: ∀{f:DV->ag DV} {C:ak} (g:b9->aM),(∀m xI,g m=true->gp F.au m=true-> ∀P r s (Q:ak->af->Prop) RE,Gd F P r s->Q C s->wpAny F.M F.A (eval (.Name m xI) F.au) Q RE s)->(∀H r (s:af) v x d,Wd F.c r s->dm F.c H s.heap v x->f x=some d->Op F.c F.A H (bS (.builtin "isinstance") [v,C]) s d)->
   (x==("isinstance":b9)&&NG args λa t=>jm t λy U=>g y&&(iL v y&&pC sg es v [a]))=true->(∃a m xI,args=[a,.Name m xI])/\SE F (.Call (.Name x np) args [] p) (λδ r=>(mE ct es δ r).bind λvs r=>bc.fG (jx vs f) r):=λ{f C} g hn hB h=>by
  have h2:=cL h
  have h3:=cS h
  refine mv (m:=λargs=>(∃a m xI,args=[a,.Name m xI])/\SE F (.Call (.Name x np) args [] p) (λδ r=>(mE ct es δ r).bind λvs r=>bc.fG (jx vs f) r)) h3 λa t h=>fh (m:=λt=>(∃a' m xI,[a,t]=[a',.Name m xI])/\SE F (.Call (.Name x np) [a,t] [] p) (λδ r=>(mE ct es δ r).bind λvs r=>bc.fG (jx vs f) r)) h λy xI h=>?_
  refine BH h λh4 h5 h6=>?_
  refine bN ((hs F v [a] W K h6).jx) λex h9=>n7 h9 λLD hp A=>?_
  refine aK LD ?_
  refine⟨⟨a,y,xI,rfl⟩,?_⟩
  have:=S.isi (f:=f) (pos:=p) (np:=np) W.ok hp (eq_of_beq h2) hk (hn y xI h4<|K.iL h5) A.se hB
  exact .Wo this
 cases b with
 |lT=>
  have h2:=cL h
  have h3:=cS h
  refine i4 (m:=λargs=>B3 F ct .lT es<|.Call (.Name x np) args [] p) h3 λa h=>⟨gy (m:=λa=>SE F (.Call (.Name x np) [a] [] p)<|dv ct<|.k .lT es) h λy xI as p2 h=>?_,λz=>ff z,rfl⟩
  have h4:=cL h
  have h:=cS h
  have h7:=cS h
  have h:=cL h
  have h5:=cL h
  have h6:=cS h
  refine i4 (m:=λas=>pC sg es v as=true->SE F (.Call (.Name x np) [.Call (.Name y xI) as [] p2] [] p) (dv ct<|.k .lT es)) h6 (λa U h7=>?_) h7
  refine bN ((hs F v [a] W K h7).jx) λex h9=>n7 h9 λLD hp A=>?_
  refine aK LD ?_
  have:=S.lT (np:=np) (xI:=xI) (pos:=p) (pos2:=p2) W.ok hp (eq_of_beq h2) (eq_of_beq h4) hk (K.iL h5) A.se
  exact .Wo this
 |wA=>
  have:=isi (f:=λx=>x.qy.map λp=>.j<|p.1==0) (C:=.ref<|F.c.cls 0) (λm=>m==sg.fY 0) (λm xI hm hg P r s Q RE G q=>jM W.ok G hg ((eq_of_beq hm).trans (Ag W.fY 0).symm▸(W.ok.cns 0<|bD 2).1) q) (λH r s v x d w D e=>OJ W.ok w D e) h
  obtain⟨⟨a,m,xI,abd⟩,this⟩:=this
  refine aK abd.symm ?_
  exact⟨this,λz=>ff z,rfl⟩
 |isStr=>
  have:=isi (f:=Hc) (C:=.type "str") (λm=>m==("str":b9)) (λm xI hm hg P r s Q RE G q=>by
   cases eq_of_beq hm
   exact fR W.ok G hg CK.mem CK.ne CK.is q) (λH r s v x d w D e=>OK W.ok w D e) h
  obtain⟨⟨a,m,xI,abe⟩,this⟩:=this
  refine aK abe.symm ?_
  exact⟨this,λz=>ff z,rfl⟩
 |_=>exact gen rfl h
theorem Wp(b es)(hs:kK sg ct es):cF sg ct (.k b es):=λF v e W K h=>by
 refine n7 (X6 b es hs W K h) λse so he=>?_
 exact⟨se,.val he se λδ r=>bc.Qe.symm,so,λz=>(so z).yf,λz=>ff z⟩
end
section
variable{c:Cx}{sg:Sg}{ct:av->aa DV->Rw->bc DV}
theorem Kc(m o es)(ho:cF sg ct o)(hs:kK sg ct es):cF sg ct (.p m o es):=λF v e W K h=>y3 h λq x p1 args p hp h=>by
 refine P6 h λh1 h2 h3 h4 h5=>?_
 have L:=hs F v args W K h5
 exact .of (.aee W.ok (eq_of_beq h1) h2 L.plain (ah h3) hp (ho F v q W K h4).se L.sl) (λU U=>rfl) rfl rfl rfl
theorem Fu(f o)(ho:cF sg ct o):cF sg ct (.D f o):=λF v e W K h=>y3 h λq x p1 args p hp h=>by
 refine bn6 h λh0 h1 h2 h3 h4 h5=>?_
 cases args with
 |cons=>exact ff h0
 |nil=>
  have e:=ah h1
  refine aK e ?_
  have hl:sg.lv 2000<=F.lv:=K.lv▸ah h4
  have A:=(ho F v q W K h5).se
  exact⟨.VV W.ok (W.call 2000 rfl) hl JK (eq_of_beq h2) h3 hp A,λP r s Q E G q=>q.elim,λz=>ff z,λz=>.VV W.ok (W.Wl 2000 rfl) hl CN (eq_of_beq h2) h3 hp A,λz=>ff z⟩
theorem Kd(o f)(ho:cF sg ct o):cF sg ct (.l o f):=λF v e W K h=>ij h λq x p h=>by
 refine BH h λh1 h2 h3=>?_
 have se:SE F (.Attribute q x p) (dv ct<|.l o f):=.attr W.ok (eq_of_beq h1) (ho F v q W K h3).se<|J8 h2
 exact .tru se (.val rfl se λδ r=>bc.Qe.symm) rfl rfl rfl
theorem Qo(o i)(ho:cF sg ct o)(hi:cF sg ct i):cF sg ct (.m o i):=λF v e W K h=>lV h λa b p h=>by
 refine BH h λh1 h2 h3=>?_
 exact .of (.idx (da h1) (ho F v a W K h2).se (hi F v b W K h3).se) (λU U=>rfl) rfl rfl rfl
theorem Qp{F v a p1 p o hi}{lo up:ag aX}(ho:cF sg ct o)(hi':cF sg ct hi)(W:World F.c sg ct)(K:jn F v){m:aX->Prop}(h:(lo.isNone&&Up up λb=>fD sg o v a&&fD sg hi v b)=true)(k: ∀b,SE F a (dv ct o)->SE F b (dv ct hi)->m (.Subscript a (.Slice none (some b) none p1) p)):m (.Subscript a (.Slice lo up none p1) p):=by
 have h:=cS h
 cases lo with
 |some _=>exact ff (cL h)
 |none=>exact uI (m:=λup=>m (.Subscript a (.Slice none up none p1) p)) h λb h=>k b (ho F v a W K (aT h).1).se (hi' F v b W K (aT h).2).se
theorem Ke(o hi)(ho:cF sg ct o)(hi':cF sg ct hi):cF sg ct (.tG o hi):=λF v e W K h=>vZ h λa lo up p1 p hn h=>Qp ho hi' W K h λb A B=>.lit (.aec hn A B) (λU U=>rfl) rfl
theorem Kg(o hi)(ho:cF sg ct o)(hi':cF sg ct hi):cF sg ct (.vz o hi):=λF v e W K h=>vZ h λa lo up p1 p hn h=>Qp ho hi' W K h λb A B=>.of (.TK hn A B) (λU U=>rfl) rfl rfl rfl
theorem Kh(o lo')(ho:cF sg ct o)(hi':cF sg ct lo'):cF sg ct (.vA o lo'):=λF v e W K h=>vZ h λa lo up p1 p hn h=>by
 have h:=cS h
 cases up with
 |some _=>exact ff (cL h)
 |none=>exact uI (m:=λlo=>qS F ct (.vA o lo') (.Subscript a (.Slice lo none none p1) p)) h λb h=>.of (.aed hn (ho F v a W K (aT h).1).se (hi' F v b W K (aT h).2).se) (λU U=>rfl) rfl rfl rfl
theorem Kj(es)(hs:kK sg ct es):cF sg ct (.r es):=λF v e W K h=>H5 h λelts p h=>.lit (.list (hs F v elts W K h).sl) (λU U=>rfl) rfl
theorem Fv(es)(hs:kK sg ct es):cF sg ct (.t es):=λF v e W K h=>lA h λelts k p h=>.of (.tuple (hs F v elts W K h).sl) (λU U=>rfl) rfl rfl rfl
class inductive rt {κ:Type} (f:κ->Tb):aa (ag aX)->aa κ->Prop
 |nil:rt f [] []
 |cons {l n p os ks} (r:rt f os ks):rt f (some (.Constant (f l) n p)::os) (l::ks)
theorem Ml{κ:Type}{f:κ->Tb}{os:aa (ag aX)}{ks:aa κ}(h1:os.length=ks.length)(h:((os.zip ks).all λp=>Up p.1<|NH<|f p.2)=true):rt f os ks:=by
 induction os generalizing ks with
 |nil=>
  cases ks with
  |nil=>exact .nil
  |cons=>cases h1
 |cons o os ih=>
  cases ks with
  |nil=>cases h1
  |cons k ks=>
   have h2:=cL h
   have h3:=cS h
   exact uI (m:=λo=>rt f (o::os)<|k::ks) h2 λe h=>lk (m:=λe=>rt f (some e::os)<|k::ks) h λn p=>.cons<|ih (dc h1) h3
theorem Fw{κ:Type}{f:κ->Tb}{os:aa (ag aX)}{ks:aa κ}(h:Qc f os ks=true):rt f os ks:=Ml (ah (aT h).1) (aT h).2
section
variable{κ K:Type}[g8 K]{f:κ->Tb}{g:κ->K}{knd: ∀prog w,YY prog w K}{F:Fx}{es:n8}{l:aa aX}{os:aa (ag aX)}{ks:aa κ}
theorem rt.some(h:rt f os ks):os.all (λx=>x.isSome)=true:=by
 induction h with
 |nil=>rfl
 |cons _ ih=>exact ih
theorem rt.Wq{pos:jt}(hf: ∀k n p (s:af) (Q:ak->af->Prop) RE,(∀v,(knd F.c.prog F.c.w).is (g k) v=true->Q v {s with toks:=s.toks+1})->wpAny F.M F.A (eval (.Constant (f k) n p) F.au) Q RE s)(h:rt f os ks)(L:Dj F ct es l)(hl:l.length=ks.length):S F (VP g knd ks) (sD<|kg pos F.au os l) (mE ct es):=by
 induction h generalizing es l with
 |nil=>
  cases L with
  |nil=>exact .LM
  |cons=>cases hl
 |cons _ ih=>
  cases L with
  |nil=>cases hl
  |cons p A L=>exact .HD (hf _ _ _) A.se<|ih L<|dc hl
end
theorem Fy(ks es)(hs:kK sg ct es):cF sg ct (.F ks es):=λF v e W K h=>yT h λgP vals p h=>by
 refine P6 h λh1 h2 h3 h4 h5=>?_
 have L:=hs F v vals W K h5
 have hl:=ah h3
 refine .lit ?_ (λU U=>rfl) rfl
 have k:=Fw h4
 cases k with
 |nil=>
  cases L with
  |nil=>exact .aac W.ok
  |cons=>cases hl
 |@cons l n p' os ks k=>
  cases L with
  |nil=>cases hl
  |cons p2 A L=>exact .Bf W.ok (rt.cons k).some (by simp[kg]) (ah h1) (ah h2)<|rt.Wq (λk n p=>aef k rfl) (rt.cons k) (.cons p2 A L) hl
theorem Fz(ks es)(hs:kK sg ct es):cF sg ct (.qa ks es):=λF v e W K h=>yT h λgP vals p h=>by
 refine P6 h λh1 h2 h3 h4 h5=>?_
 have L:=hs F v vals W K h5
 have hl:=ah h3
 refine .lit ?_ (λU U=>rfl) rfl
 have k:=Fw h4
 cases k with
 |nil=>
  cases L with
  |nil=>exact .Xo W.ok
  |cons=>cases hl
 |@cons l n p' os ks k=>
  cases L with
  |nil=>cases hl
  |cons p2 A L=>exact .Bg W.ok (rt.cons k).some (by simp[kg]) (ah h1) (ah h2)<|rt.Wq (λk n p=>aeg k) (rt.cons k) (.cons p2 A L) hl
end
section
variable{c:Cx}{sg:Sg}{ct:av->aa DV->Rw->bc DV}{F:Fx}{v:Ev}{sc:jB}{i j:av}{x y:b9}
theorem Mm(h:Dg a=true):a=tX:=by
 obtain⟨a1,a2,a3,a4,a5,a6,a7⟩:=a
 unfold Dg at h
 simp only[be,xx,An]at h
 obtain⟨⟨⟨⟨⟨⟨h1,h2⟩,h3⟩,h4⟩,h5⟩,h6⟩,h7⟩:=h
 subst h1 h2 h3 h4 h5 h6 h7
 rfl
structure abf(au:tx)(sc:jB):Prop where
 free:vO sc.names au
 md:(sc.names.map<|λx=>x.1).Nodup
 oU: ∀y∈sc.names,y.2≠.cell
 kind:sc.kind=.function
theorem jn.scope(K:jn F v)(h:H8 v.nm sc=true):abf F.au sc:=by
 refine Wk h λh1 h2 h3 h4=>?_
 refine⟨λp hp hf=>?_,ah h2,λy hy z=>?_,eq_of_beq h4⟩
 ·rw[K.Ur]
  refine(aZ.mp<|aF.mp h1 p hp).elim (λn=>?_) eq_of_beq
  replace n:=hf▸n
  cases n
 ·have:=aF.mp h3 y hy
  replace this:=z▸this
  cases this
theorem jn.fI(K:jn F v)(h:J6 v sc i x=true):m3 F.au F.Λ sc i x:=by
 refine BH h λh1 h2 h3=>?_
 have s:=K.scope h1
 exact⟨s.free,s.md,s.oU,s.kind,K.Λ▸ah h2,eq_of_beq h3⟩
theorem kZ(h:Dh iter=true): ∀(au:tx) x,cH iter au x=pure x:=by
 intro au x
 cases iter with
 |Set=>exact ff h
 |_=>rfl
theorem FA(K:jn F v):(YR sc F.au).names=wM v.nm sc.names:=by
 refine(?_:(sc.names.map λ(n,k)=>if(k==kT&&F.au.scope.kind==mo&&F.au.kindOf n==some fP)=true then(n,fP) else(n,k))=_)
 unfold wM
 refine cr λp U=>?_
 obtain⟨n,k⟩:=p
 refine(?_:(if(k==kT&&F.au.scope.kind==mo&&F.au.kindOf n==some fP)=true then(n,fP) else(n,k))=_)
 rw[K.kind,K.Ur]
 refine aK (show(mo==mo)=true from rfl) ?_
 rw[gR]
theorem jn.dw(K:jn F v)(hs:sc.kind=.function):jn (F.fI sc cl C Λ') ⟨v.fg,wM v.nm sc.names,Λ',false⟩:=⟨K.lv,FA K,hs,rfl,λh=>ff h⟩
theorem FC(elt i it ts)(hE:cF sg ct elt)(hI:y4 sg ct it)(hT:kK sg ct ts):cF sg ct (.v elt i it ts):=λF v e W K h=>rr h λel gs sc p h=>oq (m:=λgs=>qS F ct (.v elt i it ts)<|.ListComp el gs sc p) h λx px iter ifs hn h=>by
 refine Wk h λh1 h2 h3 h4=>?_
 have C:=K.fI h1
 have I:=(hI F v iter W K h2).si
 have Ki:=λcl C'=>jn.dw (cl:=cl) (C:=C') (Λ':=dg F.Λ sc.names i x) K C.kind
 have e:v.fI sc i x=⟨v.fg,wM v.nm sc.names,dg F.Λ sc.names i x,false⟩:=by unfold Ev.fI;rw[K.Λ]
 rw[e]at h3 h4
 have T:=λcl C'=>(hT (F.fI sc cl C'<|dg F.Λ sc.names i x) _ ifs W (Ki cl C') h3).Bb
 have B:=λcl C'=>(hE (F.fI sc cl C'<|dg F.Λ sc.names i x) _ el W (Ki cl C') h4).se
 have so:=S.O9 (px:=px) (pos:=p) C (kZ hn F.au) I T B
 exact⟨so.nF,λP r s Q E G q=>q.elim,λU=>so,λU=>so.yf,λU U U U U hsw gv hk=>.O9 C (kZ hn F.au) I T B hsw gv hk⟩
theorem FD(k w i it)(hK:cF sg ct k)(hW:cF sg ct w)(hI:y4 sg ct it):cF sg ct (.G k w i it):=λF v e W K h=>yV h λkx vx gs sc p h=>oq (m:=λgs=>qS F ct (.G k w i it)<|.DictComp kx vx gs sc p) h λx px iter ifs hn h=>by
 refine P6 h λh0 h1 h2 h3 h4=>?_
 cases ifs with
 |cons=>exact ff h0
 |nil=>
  have C:=K.fI h1
  have I:=(hI F v iter W K h2).si
  have Ki:=λcl C'=>jn.dw (cl:=cl) (C:=C') (Λ':=dg F.Λ sc.names i x) K C.kind
  have e:v.fI sc i x=⟨v.fg,wM v.nm sc.names,dg F.Λ sc.names i x,false⟩:=by unfold Ev.fI;rw[K.Λ]
  rw[e]at h3 h4
  have A:=λcl C'=>(hK (F.fI sc cl C'<|dg F.Λ sc.names i x) _ kx W (Ki cl C') h3).se
  have B:=λcl C'=>(hW (F.fI sc cl C'<|dg F.Λ sc.names i x) _ vx W (Ki cl C') h4).se
  exact⟨(S.Pc (px:=px) (pos:=p) W.ok C (kZ hn F.au) I A B).nF,λP r s Q E G q=>q.elim,λz=>ff z,λz=>ff z,λU U U U U hsw gv hk=>.Pc W.ok C (kZ hn F.au) I A B hsw gv hk⟩
theorem BJ(elt i it j tH)(hE:cF sg ct elt)(hI:y4 sg ct it)(hJ:y4 sg ct tH):cF sg ct (.mT elt i it j tH):=λF v e W K h=>rr h λel gs sc p h=>by
 cases gs with
 |nil=>exact ff h
 |cons g1 gs=>
  refine oq (m:=λgs1=>qS F ct (.mT elt i it j tH)<|.ListComp el (gs1++gs) sc p) h λx px iter ifs hn h=>?_
  have k1:=cS h
  cases ifs with
  |cons=>exact ff<|cL h
  |nil=>
   refine oq (m:=λgs=>qS F ct (.mT elt i it j tH)<|.ListComp el ([⟨.Name x px,iter,[],0⟩]++gs) sc p) k1 λy py Qd X4 hn2 h=>?_
   have k2:=cS h
   cases X4 with
   |cons=>exact ff<|cL h
   |nil=>
    have h:=cS k2
    refine bn7 h λh2 h3 h4 h5 h6 h7 h8=>?_
    have C:=K.fI<|cL k2
    have C2:om F.au F.Λ sc i j x y:=⟨C,K.Λ▸ah h2,ah h3,eq_of_beq h4,by simpa using h5⟩
    have Ki:=λcl C'=>jn.dw (cl:=cl) (C:=C') (Λ':=gw F.Λ sc.names i j x y) K C.kind
    have e:v.gU sc i j x y=⟨v.fg,wM v.nm sc.names,gw F.Λ sc.names i j x y,false⟩:=by unfold Ev.gU;rw[K.Λ]
    rw[e]at h7 h8
    exact .of (S.X2 C2 (kZ hn F.au) (kZ hn2) (hI F v iter W K h6).si (λcl C'=>(hJ (F.fI sc cl C'<|gw F.Λ sc.names i j x y) _ Qd W (Ki cl C') h7).si)<|λcl C'=>(hE (F.fI sc cl C'<|gw F.Λ sc.names i j x y) _ el W (Ki cl C') h8).se).nF (λU U=>rfl) rfl rfl rfl
theorem Kl(b)(hb:cF sg ct b):cF sg ct (.H b):=λF v e W K h=>gy h λx np args p h=>by
 refine Wk h λh1 h2 h3 h=>?_
 refine i4 (m:=λargs=>qS F ct (.H b)<|.Call (.Name x np) args [] p) h λa h=>De (m:=λa=>qS F ct (.H b)<|.Call (.Name x np) [a] [] p) h λar body sc lp h=>?_
 refine bn6 h λh4 h5 h6 h7 h8 h9=>?_
 cases Mm h4
 have g:=K.g h1
 have s:=K.scope h5
 have e:v.lam sc=⟨v.fg - 2,sc.names,sO F.Λ sc.names,false⟩:=by unfold Ev.lam;rw[K.Λ]
 rw[e]at h9
 refine .of (.XX (NF:=v.fg - 2) W.ok W.x W.lm W.kp ((eq_of_beq h2).trans (Ag W.iG sg.kf).symm) (K.iL h3) g.1 g.2 (by rw[vo<|ah h8,K.lv];exact bK _) ⟨s.free,s.md,s.oU,s.kind,by simpa using h6,by simpa using h7⟩ λF3 I=>(hb F3 _ body (I.c.symm▸W) ⟨I.lv,aE GZ I.sc,(aE K9 I.sc).trans s.kind,I.Λ,λh=>ff h⟩ h9).se) (λU U=>rfl) rfl rfl rfl
theorem FE(es)(hs:kK sg ct es):y4 sg ct (.b es):=λF v e W K h=>gy h λx np args p h=>by
 refine BH h λh1 h2 h3=>?_
 have L:=hs F v args W K h3
 exact⟨(SI.range W.ok (eq_of_beq h1) (K.iL h2) L.plain L.sl).LG⟩
theorem Km(e es)(he:cF sg ct e)(hs:kK sg ct es):kK sg ct (.a e es):=λF v l W K h=>by
 cases l with
 |nil=>exact ff h
 |cons a l=>
  refine BH h λh1 h2 h3=>?_
  exact .cons h1 (he F v a W K h2)<|hs F v l W K h3
theorem Qq:kK sg ct .b:=λF v l W K h=>by
 cases l with
 |nil=>exact .nil
 |cons=>exact ff h
theorem Qr:cF sg ct .B:=λF v e W K h=>.of (λP r s Q E G q=>q.elim) (λU U=>rfl) rfl rfl rfl
theorem Af(e:Ex):cF sg ct e:=
 Ex.rec (motive_1:=cF sg ct) (motive_2:=kK sg ct) (motive_3:=y4 sg ct) J9 Wm Wn Qf Qg Ka Qh Qi Qj Ft Qk Ql Kb Qm Wp Kc Fu Kd Qo Ke Kg Kh Kj Fv Fy Fz
  FC BJ FD Kl Qr Qq Km (λe h F v a W K hh=>⟨.ex (h F v a W K hh).se⟩) FE e
theorem okL(es:n8):kK sg ct es:=
 n8.rec (motive_1:=cF sg ct) (motive_2:=kK sg ct) (motive_3:=y4 sg ct) J9 Wm Wn Qf Qg Ka Qh Qi Qj Ft Qk Ql Kb Qm Wp Kc Fu Kd Qo Ke Kg Kh Kj Fv Fy Fz
  FC BJ FD Kl Qr Qq Km (λe h F v a W K hh=>⟨.ex (h F v a W K hh).se⟩) FE es
end
noncomputable def Ex.Ia(e:Ex)(s:av->aM)(c n:av->n8->aM)(me:Me->Ex->n8->aM)(u:av->Ex->aM)(a:Ex->av->aM):Bool:=
 match e with
 |.b x=>s x
 |.h x y=>c x y
 |.A x y=>n x y
 |.p x y z=>me x y z
 |.D x y=>u x y
 |.l x y=>a x y
 |_=>false
theorem pD{m:Ex->Prop}(h:e.Ia s c n me u a=true)(ks: ∀x,s x=true->m (.b x))(kc: ∀x y,c x y=true->m (.h x y))(kn: ∀x y,n x y=true->m (.A x y))(km: ∀x y z,me x y z=true->m (.p x y z))(ku: ∀x y,u x y=true->m (.D x y))(ka: ∀x y,a x y=true->m (.l x y)):m e:=by
 cases e with
 |b=>exact ks _ h
 |h=>exact kc _ _ h
 |A=>exact kn _ _ h
 |p=>exact km _ _ _ h
 |D=>exact ku _ _ h
 |l=>exact ka _ _ h
 |_=>exact ff h
theorem f1{α:Type}{m:α->Prop}(x:α)(h:false=true):m x:=ff h
theorem f2{α β:Type}{m:α->β->Prop}(x:α)(y:β)(h:false=true):m x y:=ff h
theorem f3{α β γ:Type}{m:α->β->γ->Prop}(x:α)(y:β)(z:γ)(h:false=true):m x y z:=ff h
noncomputable def Qs(e:Ex)(f:av->aM):Bool:=e.Ia f (λU U=>false) (λU U=>false) (λU U U=>false) (λU U=>false) λU U=>false
theorem Ib{m:Ex->Prop}(h:Qs e f=true)(k: ∀a,f a=true->m (.b a)):m e:=pD h k f2 f2 f3 f2 f2
noncomputable def Ic(e:Ex)(f:av->n8->aM):Bool:=e.Ia (λU=>false) f (λU U=>false) (λU U U=>false) (λU U=>false) λU U=>false
theorem y5{m:Ex->Prop}(h:Ic e f=true)(k: ∀a b,f a b=true->m (.h a b)):m e:=pD h f1 k f2 f3 f2 f2
noncomputable def Wr(e:Ex)(f:av->n8->aM):Bool:=e.Ia (λU=>false) (λU U=>false) f (λU U U=>false) (λU U=>false) λU U=>false
theorem Mn{m:Ex->Prop}(h:Wr e f=true)(k: ∀a b,f a b=true->m (.A a b)):m e:=pD h f1 f2 k f3 f2 f2
noncomputable def Qu(e:Ex)(f:Me->Ex->n8->aM):Bool:=e.Ia (λU=>false) (λU U=>false) (λU U=>false) f (λU U=>false) λU U=>false
theorem Ie{m:Ex->Prop}(h:Qu e f=true)(k: ∀a b c,f a b c=true->m (.p a b c)):m e:=pD h f1 f2 f2 k f2 f2
noncomputable def Kn(e:Ex)(f:av->Ex->aM):Bool:=e.Ia (λU=>false) (λU U=>false) (λU U=>false) (λU U U=>false) f λU U=>false
theorem FF{m:Ex->Prop}(h:Kn e f=true)(k: ∀a b,f a b=true->m (.D a b)):m e:=pD h f1 f2 f2 f3 k f2
noncomputable def Qv(e:Ex)(f:Ex->av->aM):Bool:=e.Ia (λU=>false) (λU U=>false) (λU U=>false) (λU U U=>false) (λU U=>false) f
theorem Ig{m:Ex->Prop}(h:Qv e f=true)(k: ∀a b,f a b=true->m (.l a b)):m e:=pD h f1 f2 f2 f3 f2 k
noncomputable def xs1(es:n8)(f:Ex->aM):Bool:=
 match es with
 |.b=>false
 |.a e r=>match r with
  |.b=>f e
  |.a _ _=>false
theorem Ko{m:n8->Prop}(h:xs1 es f=true)(k: ∀a,f a=true->m (.a a .b)):m es:=by
 cases es with
 |b=>exact ff h
 |a e r=>
  cases r with
  |b=>exact k e h
  |a=>exact ff h
noncomputable def xsC(es:n8)(f:Ex->n8->aM):Bool:=
 match es with
 |.b=>false
 |.a e r=>f e r
theorem Dm{m:n8->Prop}(h:xsC es f=true)(k: ∀a r,f a r=true->m (.a a r)):m es:=by
 cases es with
 |b=>exact ff h
 |a e r=>exact k e r h
noncomputable def xs0(es:n8):Bool:=
 match es with
 |.b=>true
 |.a _ _=>false
noncomputable def ll(e:aX):Bool:= !(e.ctorIdx==8||(e.ctorIdx==9||e.ctorIdx==10))
noncomputable def ot(v:Ev)(o:Ex)(q:aX):Bool:=Qs o λi=>jm q λx U=>Qb v i x
noncomputable def Us(v:Ev)(is:aa av)(es:aa aX):Bool:=decide (is.length=es.length)&&(is.zip es).all λp=>jm p.2 λx U=>vX v p.1 x
noncomputable def abg(v:Ev)(is:aa av)(es:aa aX)(e:aX):Bool:=NG is λi j=>NG es λt1 t2=>jm t1 λx px=>jm t2 λy py=>sj e λl U U=>NG l λa b=>
 decide (i≠j)&&(v.Λ[i]?==some (some x)&&(v.Λ[j]?==some (some y)&&(v.nm.lookup x==some .local&&(v.nm.lookup y==some .local&&(decide (py.line=px.line)&&(!(x==y)&&(cD a&&(cD b&&(!([a,b].all<|K7 8)&& !([a,b].all<|GV 8))))))))))
noncomputable def FG(st:d6)(f:aX->aX->aM):Bool:=yZ st λts w U=>JZ ts λt=>f t w
noncomputable def Qw(st:d6)(f:aX->aM):Bool:=Fp st λo U=>Up o f
section
variable(S:Sg)
noncomputable def Ut(e:Ex)(v:Ev)(w:aX):Bool:=
 ot v e w||((Ic e λf U=>tJ f&&fD S e v w)||((Kn e λf U=>tJ f&&fD S e v w)||Wr e λk es=>decide (k=0)&&xsC es λke es=>xsC es λie es=>xs1 es λae=>vY w λx args=>x==S.fY 0&&(iL v x&&(decide (1<v.fg)&&(tK ie&&
  match args with
  |[]=>false
  |a::r=>NG r λb t=>cD a&&(cD b&&(fD S ke v a&&(fD S ie v b&&ot v ae t))))))))
noncomputable def mIx:Me->av
 |.append=>0
 |.reverse=>2
 |_=>1
noncomputable def Uu(e:Ex)(v:Ev)(w:aX):Bool:=
 ll w&&((Ic e λf es=>if rf f=true then xsC es λa es=>vY w λx args=>decide (f<S.Cw)&&(x==S.iG f&&(iL v x&&(decide (S.lv f<=v.fg)&&
   match args with
   |[]=>false
   |q::args=>ot v a q&&pC S es v args))) else fD S e v w)||
  Qu e λm o es=>Uq w λq x args=>ot v o q&&(x==uz m&&((decide (mIx m=0)&&xs1 es λa=>JZ args λb=>cD b&&fD S a v b)||(decide (mIx m=2)&&(xs0 es&&args.isEmpty)))))
mutual
noncomputable def Uv:Sx->Ev->d6->aM
 |.a i e,v,st=>FG st λt w=>jm t λy U=>vX v i y&&(fD S e v w&&(ll w||(qg e|| !(v.nm.lookup y==some .local))))
 |.i is e,v,st=>FG st λt w=>sj t λelts U U=>ll w&&(fD S e v w&&(abg v is elts w||(!(w.ctorIdx==25)&&Us v is elts)))
 |.m o f e,v,st=>FG st λt w=>jP t λq x U=>ll w&&(x==br (aO 2)&&(decide (f=2)&&(tK e&&(ot v o q&&fD S e v w))))
 |.h o ie e,v,st=>FG st λt w=>oo t λq x U=>ll w&&(fD S e v w&&(fD S ie v x&&(ot v o q||Qv o λo f=>jP q λq n U=>n==br (aO f)&&((decide (f=1)||decide (f=2))&&ot v o q))))
 |.j i op e,v,st=>wL st λt o w U=>jm t λy U=>vX v i y&&(!(y==("__classdict__":b9))&&(decide (o=op)&&((decide (op=.Add)||decide (op=.Sub))&&fD S e v w)))
 |.c e,v,st=>Qw st λw=>fD S e v w
 |.f e,v,st=>Qw st λw=>Ut S e v w
 |.d e,v,st=>P9 st λw U=>Uu S e v w
 |.b t b e,v,st=>abb st λx y z U=>fD S t v x&&(ou b v y&&ou e v z)
 |.l t b,v,st=>J4 st λx y z U=>z.isEmpty&&(fD S t v x&&ou b v y)
 |.e i it b,v,st=>J3 st λt iter body z U=>z.isEmpty&&jm t λy U=>vX v i y&&(Dh iter&&(Mk S it v iter&&ou b v body))
 |.n is a1 a2 b,v,st=>J3 st λt iter body z U=>z.isEmpty&&sj t λelts U U=>Us v is elts&&vY iter λx args=>x==("zip":b9)&&(iL v x&&NG args λe1 e2=>cD e1&&(cD e2&&(fD S a1 v e1&&(fD S a2 v e2&&ou b v body))))
 |.k is a1 a2 an b,v,st=>J3 st λt iter body z U=>z.isEmpty&&sj t λelts U U=>Us v is elts&&vY iter λx args=>x==("zip":b9)&&(iL v x&&
   match args with
   |[]=>false
   |e1::r=>NG r λe2 e3=>vY e3 λy as=>y==("range":b9)&&(iL v y&&JZ as λen=>cD e1&&(cD e2&&(cD en&&(fD S a1 v e1&&(fD S a2 v e2&&(fD S an v en&&ou b v body)))))))
 |.g e,v,st=>J5 st λo o2 U=>o2.isNone&&Up o λw=>vY w λx args=>x==S.fY 9&&(iL v x&&(decide (2<=v.fg)&&JZ args λa=>cD a&&fD S e v a))
 |.p,_,st=>Qa st λU=>true
 |.o,_,_=>true
noncomputable def ou:ig->Ev->aa d6->aM
 |.b,_,l=>l.isEmpty
 |.a s ss,v,l=>match l with
  |[]=>false
  |x::xs=>Uv s v x&&ou ss v xs
end
end
theorem gW(h:ll v=true):dB v t line au=pure false:=by
 cases v with
 |ListComp=>exact ff h
 |SetComp=>exact ff h
 |DictComp=>exact ff h
 |_=>rfl
theorem Dn{au:tx}(h:au.scope.kind=.function):au.blockKind=.function:=by
 unfold Env.blockKind;rw[h];rfl
theorem ae3(h:b=false):(pure (a&&b&&c):xt aM)=pure false:=by rw[h,n6,jh]
theorem Kq{m:aX->Prop}(h:ll v≠true)(h1: ∀a b c p,m<|.ListComp a b c p)(h2: ∀a b c p,m<|.SetComp a b c p)(h3: ∀a b c d p,m<|.DictComp a b c d p):m v:=by
 have e:(v.ctorIdx==8||(v.ctorIdx==9||v.ctorIdx==10))=true:=by
  cases q:(v.ctorIdx==8||(v.ctorIdx==9||v.ctorIdx==10)) with
  |true=>rfl
  |false=>
   unfold ll at h
   rw[q]at h
   exact absurd rfl h
 rcases aZ.mp e with e|e
 ·exact @ly m v (eq_of_beq e) h1
 rcases aZ.mp e with e|e
 ·exact @acm m v (eq_of_beq e) h2
 ·exact @lz m v (eq_of_beq e) h3
theorem Qx: ∃b,dB v (some<|.Name y py) line au=pure b:=by
 by_cases h:ll v=true
 ·exact⟨false,gW h⟩
 ·exact Kq (m:=λv=> ∃b,dB v (some<|.Name y py) line au=pure b) h (λU U U U=>⟨_,rfl⟩) (λU U U U=>⟨_,rfl⟩) λU U U U U=>⟨_,rfl⟩
theorem FH(hy:(au.kindOf y==some .local)=false):dB v (some<|.Name y py) line au=pure false:=by
 by_cases h:ll v=true
 ·exact gW h
 ·exact Kq (m:=λv=>dB v (some (.Name y py)) line au=pure false) h (λa b c p=>by
   refine(?_:(pure (au.blockKind==.function&&au.kindOf y==some .local&&_&&_):xt aM)=_)
   rw[hy,n6,jh,jh]) (λa b c p=>by
   refine(?_:(pure (au.blockKind==.function&&au.kindOf y==some .local&&_&&_):xt aM)=_)
   rw[hy,n6,jh,jh]) λa b c d p=>by
   refine(?_:(pure (au.blockKind==.function&&au.kindOf y==some .local&&_&&_):xt aM)=_)
   refine aK hy ?_
   rw[n6,jh,jh]
theorem FI(h:(v.ctorIdx==25)=false):q6 [.Tuple es k py] v au=pure none:=by
 cases v with
 |Tuple=>exact ff h.symm
 |_=>rfl
set_option backward.match.sparseCases true in
theorem FJ(h:cD e=true):(match(generalizing:=false) e with|.Starred .. =>true|_=>false)=false:=by
 cases e with
 |Starred=>exact ff h
 |_=>rfl
noncomputable def X7(au:tx)(px:jt)(e:aX):ag Str:=
 match e with
 |.Name id pos=>if(au.kindOf id==some eB.local&&pos.line==px.line)=true then some id else none
 |_=>none
set_option backward.match.sparseCases true in
theorem FK{au:tx}{x y:b9}{px py tp vp:jt}{k k2:av}{a b:aX}(hk:au.scope.kind=.function)(h1:au.kindOf x=some .local)(h2:au.kindOf y=some .local)(hl:py.line=px.line)(hxy:x≠y)
  (ha:cD a=true) (hb:cD b=true) (h3:[a,b].all (K7 8)=false) (h4:[a,b].all (GV 8)=false):
  q6 [.Tuple [.Name x px,.Name y py] k tp] (.Tuple [a,b] k2 vp) au=pure (some [x,y]):=by
 unfold q6
 refine(?_:(if(!(([eW x px,eW y py].length==2)||([eW x px,eW y py].length==3))||[a,b].length !=[eW x px,eW y py].length||au.blockKind !=.function)=true then pure none else _:xt (ag (aa b9)))=_)
 rw[(Dn hk),aN (by simp),aN (λq=>by
  rw[f7,f7,Tg,Tg]at q
  rcases q with q|q|q
  ·exact im<|(FJ ha).symm.trans q
  ·exact im<|(FJ hb).symm.trans q
  ·cases q)]
 have e:(nY (X7 au px) [eW x px,eW y py])=[x,y]:=by
  have hx:(au.kindOf x==some eB.local&&px.line==px.line)=true:=by rw[h1,bH,bH];rfl
  have hy:(au.kindOf y==some eB.local&&py.line==px.line)=true:=by rw[h2,hl,bH,bH];rfl
  have e1:X7 au px (.Name x px)=some x:=aJ hx
  have e2:X7 au px (.Name y py)=some y:=aJ hy
  rw[jJ e1,jJ e2];rfl
 show(if((nY (X7 au px) [eW x px,eW y py]).length !=2||(nY (X7 au px) [eW x px,eW y py]).eraseDups.length !=(nY (X7 au px) [eW x px,eW y py]).length)=true then pure none else if [a,b].all (K7 8)=true then pure none else if [a,b].all (GV 8)=true then _ else pure (some (nY (X7 au px) [eW x px,eW y py])):xt (ag (aa b9)))=_
 refine aK e<|aK h3<|aK h4 ?_
 have hd:[x,y].eraseDups=[x,y]:=by
  simp[List.eraseDups_cons,(cz.mpr λq=>hxy q.symm)]
 refine aK hd ?_
 rfl
section
variable{c:Cx}{sg:Sg}{ct:av->aa DV->Rw->bc DV}{mu:aa av}{Z:Zs}{F:Fx}{v:Ev}{st:d6}{w:aX}{e:Ex}
theorem pE{m:d6->Prop}(h:FG st f=true)(k: ∀t w p,f t w=true->m (.Assign [t] w p)):m st:=
 uJ h λts w p h=>i4 (m:=λts=>m<|.Assign ts w p) h λt h=>k t w p h
theorem BK{m:d6->Prop}(h:Qw st f=true)(k: ∀w p,f w=true->m (.Return (some w) p)):m st:=
 Df h λo p h=>uI (m:=λo=>m<|.Return o p) h λw h=>k w p h
theorem iM{m:Ex->aX->Prop}(K:jn F v)(h:ot v o q=true)(k: ∀i x p,jl F i x->m (.b i) (.Name x p)):m o q:=
 Ib (m:=λo=>m o q) h λi h=>fh (m:=λq=>m (.b i) q) h λx p h=>k i x p<|K.slot h
structure Uw(F:Fx)(i:av)(x:b9):Prop where
 gv:F.Λ[i]?=some (some x)
 hk:F.au.kindOf x=some .local\/F.au.kindOf x=some .cell
theorem jn.wJ(K:jn F v)(h:vX v i x=true):Uw F i x:=by
 have h2:=cS h
 refine⟨K.Λ▸eq_of_beq (cL h),?_⟩
 rw[K.Ur]
 exact(aZ.mp h2).imp eq_of_beq eq_of_beq
theorem Qy(K:jn F v)(hl:is.length=es.length)(h:((is.zip es).all λp=>jm p.2 λx U=>vX v p.1 x)=true):iz F is es:=by
 induction is generalizing es with
 |nil=>
  cases es with
  |nil=>exact .nil
  |cons=>cases hl
 |cons i is ih=>
  cases es with
  |nil=>cases hl
  |cons e es=>
   have h1:=cL h
   have h2:=cS h
   exact fh (m:=λe=>iz F (i::is)<|e::es) h1 λx p h=>.cons (K.wJ h).gv (K.wJ h).hk<|ih (dc hl) h2
theorem jn.names(K:jn F v)(h:Us v is es=true):iz F is es:=Qy K (ah (aT h).1) (aT h).2
noncomputable abbrev TX(Z:Zs)(ct:av->aa DV->Rw->bc DV)(mu:aa av)(st:d6)(E:Sx):Prop:=T Z (exec st Z.F.au)<|ds ct mu E
def lB(sg:Sg)(ct:av->aa DV->Rw->bc DV)(mu:aa av)(sx:Sx):Prop:= ∀(Z:Zs) v st,World Z.F.c sg ct->jn Z.F v->sH Z.F->(mu.contains 0=true->Z.sG=none)->Uv sg sx v st=true->TX Z ct mu st sx
def lW(sg:Sg)(ct:av->aa DV->Rw->bc DV)(mu:aa av)(sx:ig):Prop:= ∀(Z:Zs) v l,World Z.F.c sg ct->jn Z.F v->sH Z.F->(mu.contains 0=true->Z.sG=none)->ou sg sx v l=true->T Z (execs l Z.F.au) (bM ct mu sx)
theorem Qz(i e):lB sg ct mu (.a i e):=λZ v st W K H hp h=>pE (m:=λst=>TX Z ct mu st _) h λt w p h=>fh (m:=λt=>TX Z ct mu (.Assign [t] w p)<|.a i e) h λy py h=>by
 refine BH h λh1 h2 h3=>?_
 have A:=Af e Z.F v w W K h2
 have S0:=K.wJ h1
 have sw:qg e=true\/dB w (some<|.Name y py) p.line Z.F.au=pure false:=by
  rcases aZ.mp h3 with h|h
  ·exact .inr<|gW h
  rcases aZ.mp h with h|h
  ·exact .inl h
  ·exact .inr<|FH (by rw[K.Ur];simpa using h)
 have Za:(qg e=true/\Bw VO Z.F i (exec (.Assign [.Name y py] w p) Z.F.au) (dv ct e))\/dB w (some<|.Name y py) p.line Z.F.au=pure false:=by
  rcases sw with h|h
  ·obtain⟨b,hb⟩:=Qx (v:=w) (y:=y) (py:=py) (line:=p.line) (au:=Z.F.au)
   cases b with
   |true=>exact .inl ⟨h,A.as h hb S0.gv S0.hk⟩
   |false=>exact .inr hb
  ·exact .inr h
 by_cases hm:(mu.contains i&&ur e)=true
 ·have AW:Bw VW Z.F i (exec (.Assign [.Name y py] w p) Z.F.au) (dv ct e):=by
   rcases Za with⟨_,h⟩|h
   ·exact h.yf
   ·exact(A.sw (aT hm).2).Za E5 h S0.gv S0.hk
  have t:=T.TW (λz=>hp<|z▸(aT hm).1) S0.gv AW
  intro O vs δ r s Kk V q
  refine t O vs δ r s Kk V ?_
  have q:(if(mu.contains i&&ur e)=true then _ else _:SR).wp Kk:=q
  rw[aJ hm]at q
  exact q
 ·have AD:Bw VD Z.F i (exec (.Assign [.Name y py] w p) Z.F.au) (dv ct e):=by
   rcases Za with⟨_,h⟩|h
   ·exact h.LG λU U U U U U=>VO.nB
   ·exact A.se.Za Pe h S0.gv S0.hk
  have t:=T.assign S0.gv AD
  intro O vs δ r s Kk V q
  refine t O vs δ r s Kk V ?_
  have q:(if(mu.contains i&&ur e)=true then _ else _:SR).wp Kk:=q
  rw[aN hm]at q
  exact q
theorem QA(is e):lB sg ct mu (.i is e):=λZ v st W K H hp h=>pE (m:=λst=>TX Z ct mu st _) h λt w p h=>lA (m:=λt=>TX Z ct mu (.Assign [t] w p)<|.i is e) h λelts k tp h=>by
 refine BH h λh1 h2 h3=>?_
 have A:=(Af e Z.F v w W K h2).se
 rcases aZ.mp h3 with h|h
 ·have hs:jf [.Tuple elts k tp] w p.line Z.F.au=pure false:=show dB w (some<|.Tuple elts k tp) p.line Z.F.au=pure false from gW h1
  refine mv (m:=λis=>TX Z ct mu (.Assign [.Tuple elts k tp] w p)<|.i is e) h λi j h=>?_
  revert hs
  refine mv (m:=λelts=>jf [.Tuple elts k tp] w p.line Z.F.au=pure false->TX Z ct mu (.Assign [.Tuple elts k tp] w p) (.i [i,j] e)) h λt1 t2 h=>?_
  refine fh (m:=λt1=>jf [.Tuple [t1,t2] k tp] w p.line Z.F.au=pure false->TX Z ct mu (.Assign [.Tuple [t1,t2] k tp] w p) (.i [i,j] e)) h λx px h=>?_
  refine fh (m:=λt2=>jf [.Tuple [.Name x px,t2] k tp] w p.line Z.F.au=pure false->TX Z ct mu (.Assign [.Tuple [.Name x px,t2] k tp] w p) (.i [i,j] e)) h λy py h hs=>?_
  revert A hs
  refine lA (m:=λw=>SE Z.F w (dv ct e)->jf [.Tuple [.Name x px,.Name y py] k tp] w p.line Z.F.au=pure false->TX Z ct mu (.Assign [.Tuple [.Name x px,.Name y py] k tp] w p) (.i [i,j] e)) h λl k2 vp h=>?_
  refine mv (m:=λl=>SE Z.F (.Tuple l k2 vp) (dv ct e)->jf [.Tuple [.Name x px,.Name y py] k tp] (.Tuple l k2 vp) p.line Z.F.au=pure false->TX Z ct mu (.Assign [.Tuple [.Name x px,.Name y py] k tp] (.Tuple l k2 vp) p) (.i [i,j] e)) h λa b h A hs=>?_
  refine aeX h λh1 h2 h3 h4 h5 h6 h7 h8 h9 Mo h11=>?_
  have kx:=(K.Ur x).trans<|eq_of_beq h4
  have ky:=(K.Ur y).trans<|eq_of_beq h5
  exact .aeC (K.Λ▸eq_of_beq h2) (K.Λ▸eq_of_beq h3) kx ky (ah h1) hs (FK K.kind kx ky (ah h6) (by simpa using h7) h8 h9 (by simpa only[eV]using Mo) (by simpa only[eV]using h11)) A
 ·have h4:=cL h
  exact .Xw (K.names<|cS h) (show dB w (some<|.Tuple elts k tp) p.line Z.F.au=pure false from gW h1) (FI (by simpa only[eV]using h4)) A
end
section
variable{c:Cx}{sg:Sg}{ct:av->aa DV->Rw->bc DV}{mu:aa av}{Z:Zs}{F:Fx}{v:Ev}{st:d6}{w:aX}{e:Ex}
theorem Mp(o f e):lB sg ct mu (.m o f e):=λZ v st W K H hp h=>pE (m:=λst=>TX Z ct mu st _) h λt w p h=>ij (m:=λt=>TX Z ct mu (.Assign [t] w p)<|.m o f e) h λq n ap h=>by
 refine bn6 h λh1 h2 h3 h4 h5 h6=>?_
 have ef:=ah h3
 refine aK ef ?_
 refine iM (m:=λo q=>TX Z ct mu (.Assign [.Attribute q n ap] w p)<|.m o 2 e) K h5 λi x np N=>?_
 exact T.C5 (lt:=tK e) W.ok (eq_of_beq h2) (gW h1) N<|(Af e Z.F v w W K h6).so h4
theorem QB(o ie e):lB sg ct mu (.h o ie e):=λZ v st W K H hp h=>pE (m:=λst=>TX Z ct mu st _) h λt w p h=>lV (m:=λt=>TX Z ct mu (.Assign [t] w p)<|.h o ie e) h λq x sp h=>by
 refine Wk h λh1 h2 h3 h=>?_
 have A:=(Af e Z.F v w W K h2).se
 have B:=(Af ie Z.F v x W K h3).se
 rcases aZ.mp h with h|h
 ·exact iM (m:=λo q=>TX Z ct mu (.Assign [.Subscript q x sp] w p)<|.h o ie e) K h λi y np N=>.Xz (gW h1) N A B
 ·refine Ig (m:=λo=>TX Z ct mu (.Assign [.Subscript q x sp] w p)<|.h o ie e) h λo f h=>ij (m:=λq=>TX Z ct mu (.Assign [.Subscript q x sp] w p)<|.h (.l o f) ie e) h λq n ap h=>?_
  refine BH h λh4 h5 h6=>?_
  exact iM (m:=λo q=>TX Z ct mu (.Assign [.Subscript (.Attribute q n ap) x sp] w p)<|.h (.l o f) ie e) K h6 λi y np N=>.T9 W.ok (eq_of_beq h4) ((aZ.mp h5).imp ah ah) (J8 rfl) (gW h1) N A B
theorem abh(i op e):lB sg ct mu (.j i op e):=λZ v st W K H hp h=>xh (m:=λst=>TX Z ct mu st _) h λt o w p h=>fh (m:=λt=>TX Z ct mu (.AugAssign t o w p)<|.j i op e) h λy py h=>by
 refine P6 h λh1 h2 h3 h4 h5=>?_
 have S0:=K.wJ h1
 refine aK (ah h3) ?_
 exact .aug ((aZ.mp h4).imp ah ah) S0.gv S0.hk (by simpa only[eV]using h2) (Af e Z.F v w W K h5).se
theorem abi(e):lB sg ct mu (.c e):=λZ v st W K H hp h=>BK (m:=λst=>TX Z ct mu st _) h λw p h=>.ret (Af e Z.F v w W K h).se
theorem FL{α β:Type}{x:bc α}{f:α->Rw->bc β}{g:β->Rw->SR}:(x.bind f).fZ g=x.fZ λa r=>(f a r).fZ g:=by cases x<;>rfl
theorem X8{α:Type}{b:Prop}[sF b]{x}{g}:(if b then x else .d:bc α).fZ g=if b then x.fZ g else .e:=by by_cases h:b<;>simp only[h,if_true,if_false]<;>rfl
theorem T.eqv{x y y'}(t:T Z x y)(e: ∀δ r,y' δ r=y δ r):T Z x y':=(funext λδ=>funext λr=>e δ r:y'=y)▸t
theorem Ih{f o}(h:tJ f=true)(δ:Sl)(r:Rw):ds ct mu (.f<|.D f o) δ r=(dv ct (.D f o) (b4 δ) r).fZ λd r=>.g d r:=by
 refine(aJ h).trans<|.trans ?_ FL.symm
 exact aE (bc.fZ _)<|funext λx=>funext λr=>X8.symm
theorem X9(e):lB sg ct mu (.f e):=λZ v st W K H hp h=>BK (m:=λst=>TX Z ct mu st<|.f e) h λw p h=>by
 rcases aZ.mp h with h|h
 ·exact iM (m:=λe w=>TX Z ct mu (.Return (some w) p)<|.f e) K h λi x np N=>.aax N
 rcases aZ.mp h with h|h
 ·exact y5 (m:=λe'=>e=e'->TX Z ct mu (.Return (some w) p) (.f e')) h (λf es h z=>.eqv (.Wb<|(Af (.h f es) Z.F v w W K<|z▸cS h).sw<|cL h) λδ r=>(aJ<|cL h).trans FL.symm) rfl
 rcases aZ.mp h with h|h
 ·exact FF (m:=λe'=>e=e'->TX Z ct mu (.Return (some w) p) (.f e')) h (λf o h z=>.eqv (.Wb<|(Af (.D f o) Z.F v w W K<|z▸cS h).sw<|cL h)<|Ih<|cL h) rfl
 ·refine Mn (m:=λe=>TX Z ct mu (.Return (some w) p)<|.f e) h λk es h=>?_
  have h1:=cL h
  have h:=cS h
  refine aK (ah h1) ?_
  refine Dm (m:=λes=>TX Z ct mu (.Return (some w) p)<|.f<|.A 0 es) h λke es h=>Dm (m:=λes=>TX Z ct mu (.Return (some w) p)<|.f<|.A 0<|.a ke es) h λie es h=>Ko (m:=λes=>TX Z ct mu (.Return (some w) p)<|.f<|.A 0<|.a ke<|.a ie es) h λae h=>gy (m:=λw=>TX Z ct mu (.Return (some w) p)<|.f<|.A 0<|.a ke<|.a ie<|.a ae .b) h λx np args cp h=>?_
  refine P6 h λh2 h3 h4 h5 h=>?_
  cases args with
  |nil=>exact ff h
  |cons a as=>
   refine mv (m:=λas=>TX Z ct mu (.Return (some<|.Call (.Name x np) (a::as) [] cp) p)<|.f<|.A 0<|.a ke<|.a ie<|.a ae .b) h λb t h=>?_
   refine P6 h λh6 h7 h8 h9 Mo=>?_
   refine iM (m:=λae t=>TX Z ct mu (.Return (some<|.Call (.Name x np) [a,b,t] [] cp) p)<|.f<|.A 0<|.a ke<|.a ie<|.a ae .b) K Mo λj y yp N=>.eqv (.aa8 W.ok (W.rq 0<|bD 2) (K.lv▸ah h4) ((eq_of_beq h2).trans (Ag W.fY 0).symm) (K.iL h3) (by rw[bw,bw,h6,h7];rfl) N (Af ke Z.F v a W K h8).se<|(Af ie Z.F v b W K h9).so h5) λδ r=>aJ (by rw[h5];rfl)
theorem Mq(h:mIx m=0):m=.append:=by
 cases m with
 |append=>rfl
 |_=>cases h
theorem Ii(h:mIx m=2):m=.reverse:=by
 cases m with
 |reverse=>rfl
 |_=>cases h
theorem Ya(e):lB sg ct mu (.d e):=λZ v st W K H hp h=>H6 (m:=λst=>TX Z ct mu st<|.d e) h λw p h=>by
 have h0:=cL h
 have h:=cS h
 rcases aZ.mp h with h|h
 ·refine y5 (m:=λe'=>e=e'->TX Z ct mu (.Expr w p) (.d e')) h (λf es h z=>?_) rfl
  by_cases hm:rf f=true
  ·rw[aJ hm]at h
   refine Dm (m:=λes=>TX Z ct mu (.Expr w p)<|.d<|.h f es) h λa es h=>gy (m:=λw=>TX Z ct mu (.Expr w p)<|.d<|.h f<|.a a es) h λx np args cp h=>?_
   refine P6 h λh1 h2 h3 h4 h=>?_
   cases args with
   |nil=>exact ff h
   |cons q args=>
    have L:=okL es Z.F v args W K<|cS h
    exact iM (m:=λa q=>TX Z ct mu (.Expr (.Call (.Name x np) (q::args) [] cp) p)<|.d<|.h f<|.a a es) K (cL h) λi y yp N=>.eqv (.aaA W.ok (W.ae0 f hm) (K.lv▸ah h4) (W.Cw▸ah h1) ((eq_of_beq h2).trans (Ag W.iG f).symm) (K.iL h3) L.plain (gW rfl) N L.sl) λδ r=>aJ hm
  ·rw[aN hm]at h
   exact .eqv (.expr (gW h0) (Af (.h f es) Z.F v w W K<|z▸h).se) λδ r=>aN hm
 ·refine Ie (m:=λe=>TX Z ct mu (.Expr w p)<|.d e) h λm o es h=>y3 (m:=λw=>TX Z ct mu (.Expr w p)<|.d<|.p m o es) h λq x p1 args cp hline h=>?_
  refine BH h λh1 h2 h=>?_
  refine iM (m:=λo q=>TX Z ct mu (.Expr (.Call (.Attribute q x p1) args [] cp) p)<|.d<|.p m o es) K h1 λi y yp N=>?_
  rcases aZ.mp h with h|h
  ·have h3:=cL h
   cases Mq (ah h3)
   exact Ko (m:=λes=>TX Z ct mu (.Expr (.Call (.Attribute (.Name y yp) x p1) args [] cp) p)<|.d<|.p .append (.b i) es) h λa h=>i4 (m:=λargs=>TX Z ct mu (.Expr (.Call (.Attribute (.Name y yp) x p1) args [] cp) p)<|.d<|.p .append (.b i)<|.a a .b) h λb h=>.append W.ok (eq_of_beq h2) (cL h) hline (gW rfl) N.gv N.hk N.hd N.hc (Af a Z.F v b W K<|cS h).se
  ·refine BH h λh3 h4 h5=>?_
   cases Ii (ah h3)
   cases es with
   |a=>exact ff h4
   |b=>
    cases args with
    |cons=>exact ff h5
    |nil=>exact .reverse W.ok (eq_of_beq h2) hline (gW rfl) N
end
section
variable{c:Cx}{sg:Sg}{ct:av->aa DV->Rw->bc DV}{mu:aa av}
theorem abk(t b e)(hb:lW sg ct mu b)(he:lW sg ct mu e):lB sg ct mu (.b t b e):=λZ v st W K H hp h=>P8 (m:=λst=>TX Z ct mu st _) h λx y z p h=>by
 refine BH h λh1 h2 h3=>?_
 exact .ite (Af t Z.F v x W K h1).sb (hb Z v y W K H hp h2)<|he Z v z W K H hp h3
theorem Ux(t b)(hb:lW sg ct mu b):lB sg ct mu (.l t b):=λZ v st W K H hp h=>Fq (m:=λst=>TX Z ct mu st _) h λx y z p h=>by
 refine BH h λh0 h1 h2=>?_
 cases z with
 |cons=>exact ff h0
 |nil=>exact .while H (Af t Z.F v x W K h1).sb (hb Z v y W K H hp h2)
theorem y6{b:ig}{l:aa d6}{Z:Zs}{v:Ev}(hb:lW sg ct mu b)(W:World Z.F.c sg ct)(K:jn Z.F v)(H:sH Z.F)(hp:mu.contains 0=true->Z.sG=none)(h:ou sg b v l=true): ∀ex,T ⟨Z.F,ex,Z.sG⟩ (execs l Z.F.au) (bM ct mu b):=λex=>hb ⟨Z.F,ex,Z.sG⟩ v l W K H hp h
theorem abl(i it b)(hb:lW sg ct mu b):lB sg ct mu (.e i it b):=λZ v st W K H hp h=>vW (m:=λst=>TX Z ct mu st _) h λt iter body z p h=>by
 have h:=cS h
 cases z with
 |cons=>exact ff (cL h)
 |nil=>
  refine fh (m:=λt=>TX Z ct mu (.For t iter body [] p)<|.e i it b) h λy py h=>?_
  refine Wk h λh1 h2 h3 h4=>?_
  have S0:=K.wJ h1
  have B:=y6 hb W K H hp h4
  have hs:=kZ h2 Z.F.au
  cases it with
  |a e=>exact .aeu H hs S0.gv S0.hk (Af e Z.F v iter W K h3).se B
  |b es=>
   refine gy (m:=λiter=>(∀x,cH iter Z.F.au x=pure x)->TX Z ct mu (.For (.Name y py) iter body [] p) (.e i (.b es) b)) h3 (λx np args rp h hs=>?_) hs
   refine BH h λh5 h6 h7=>?_
   have L:=okL es Z.F v args W K h7
   exact .aev H hs S0.gv S0.hk (SI.range W.ok (eq_of_beq h5) (K.iL h6) L.plain L.sl) B
theorem Yb(is a1 a2 b)(hb:lW sg ct mu b):lB sg ct mu (.n is a1 a2 b):=λZ v st W K H hp h=>vW (m:=λst=>TX Z ct mu st _) h λt iter body z p h=>by
 have h:=cS h
 cases z with
 |cons=>exact ff (cL h)
 |nil=>
  refine lA (m:=λt=>TX Z ct mu (.For t iter body [] p)<|.n is a1 a2 b) h λelts k tp h=>?_
  have h1:=cL h
  have h:=cS h
  refine gy (m:=λiter=>TX Z ct mu (.For (.Tuple elts k tp) iter body [] p)<|.n is a1 a2 b) h λx np args cp h=>?_
  refine BH h λh2 h3 h=>?_
  refine mv (m:=λargs=>TX Z ct mu (.For (.Tuple elts k tp) (.Call (.Name x np) args [] cp) body [] p)<|.n is a1 a2 b) h λe1 e2 h=>?_
  refine P6 h λh4 h5 h6 h7 h8=>?_
  exact .Uc W.ok H (eq_of_beq h2) (K.iL h3) (by rw[bw,bw,h4,h5];rfl) (K.names h1) (Af a1 Z.F v e1 W K h6).se (Af a2 Z.F v e2 W K h7).se<|y6 hb W K H hp h8
theorem Yc(is a1 a2 an b)(hb:lW sg ct mu b):lB sg ct mu (.k is a1 a2 an b):=λZ v st W K H hp h=>vW (m:=λst=>TX Z ct mu st _) h λt iter body z p h=>by
 have h:=cS h
 cases z with
 |cons=>exact ff (cL h)
 |nil=>
  refine lA (m:=λt=>TX Z ct mu (.For t iter body [] p)<|.k is a1 a2 an b) h λelts k tp h=>?_
  have h1:=cL h
  have h:=cS h
  refine gy (m:=λiter=>TX Z ct mu (.For (.Tuple elts k tp) iter body [] p)<|.k is a1 a2 an b) h λx np args cp h=>?_
  refine BH h λh2 h3 h=>?_
  cases args with
  |nil=>exact ff h
  |cons e1 as=>
   refine mv (m:=λas=>TX Z ct mu (.For (.Tuple elts k tp) (.Call (.Name x np) (e1::as) [] cp) body [] p)<|.k is a1 a2 an b) h λe2 e3 h=>gy (m:=λe3=>TX Z ct mu (.For (.Tuple elts k tp) (.Call (.Name x np) [e1,e2,e3] [] cp) body [] p)<|.k is a1 a2 an b) h λy rnp as2 rp h=>?_
   refine BH h λh4 h5 h=>?_
   refine i4 (m:=λas2=>TX Z ct mu (.For (.Tuple elts k tp) (.Call (.Name x np) [e1,e2,.Call (.Name y rnp) as2 [] rp] [] cp) body [] p)<|.k is a1 a2 an b) h λen h=>?_
   refine bn7 h λh6 h7 h8 h9 Mo h11 h12=>?_
   exact .Ud W.ok H (eq_of_beq h2) (eq_of_beq h4) (K.iL h3) (K.iL h5) (by rw[bw,bw,bw,h6,h7,h8];rfl) (K.names h1) (Af a1 Z.F v e1 W K h9).se (Af a2 Z.F v e2 W K Mo).se (Af an Z.F v en W K h11).se<|y6 hb W K H hp h12
theorem Uy(e):lB sg ct mu (.g e):=λZ v st W K H hp h=>Fs (m:=λst=>TX Z ct mu st _) h λo o2 p h=>by
 have h:=cS h
 cases o2 with
 |some=>exact ff (cL h)
 |none=>
  refine uI (m:=λo=>TX Z ct mu (.Raise o none p)<|.g e) h λw h=>gy (m:=λw=>TX Z ct mu (.Raise (some w) none p)<|.g e) h λx np args cp h=>?_
  refine Wk h λh1 h2 h3 h=>?_
  refine i4 (m:=λargs=>TX Z ct mu (.Raise (some<|.Call (.Name x np) args [] cp) none p)<|.g e) h λa h=>?_
  have h4:=cL h
  exact .aa3 W.ok W.x W.xi ((eq_of_beq h1).trans (Ag W.fY 9).symm) (K.iL h2) (by rw[bw,h4];rfl) (K.lv▸ah h3) (Af e Z.F v a W K<|cS h).se
theorem Yd:lB sg ct mu .p:=λZ v st W K H hp h=>H7 (m:=λst=>TX Z ct mu st _) h λp U=>.aeq
theorem abm:lW sg ct mu .b:=λZ v l W K H hp h=>by
 cases l with
 |nil=>exact .nil
 |cons=>exact ff h
theorem Ye(s ss)(hs:lB sg ct mu s)(hss:lW sg ct mu ss):lW sg ct mu (.a s ss):=λZ v l W K H hp h=>by
 cases l with
 |nil=>exact ff h
 |cons x xs=>
  have h1:=cL h
  exact .cons (hs Z v x W K H hp h1)<|hss Z v xs W K H hp<|cS h
theorem abn(ss:ig):lW sg ct mu ss:=
 ig.rec (motive_1:=lB sg ct mu) (motive_2:=lW sg ct mu) Qz QA Mp QB abh abi X9 Ya abk Ux abl Yb Yc Uy Yd (λZ v st W K H hp h O vs δ r s K q0 q=>q.elim) abm Ye ss
theorem Uz(W:World c sg ct)(hg:g=true->fd.code=.ref c.code/\(fd.qualname++".<locals>.")++"<lambda>"=c.nP)(hk:fd.scope.kind=.function)(h:ou sg I.body ⟨I.fg,fd.scope.names,I.Λ,g⟩ body=true):vS c I fd body λδ r=>bM ct I.mu I.body δ r:=λF i ex pn hp=>
 abn I.body ⟨F,ex,pn⟩ ⟨I.fg,fd.scope.names,I.Λ,g⟩ body (i.c.symm▸W) ⟨i.lv,aE GZ i.of.sc,(aE K9 i.of.sc).trans hk,i.Λ,λz=>⟨i.of.code.trans ((hg z).1.trans (by rw[i.c])),by rw[i.of.qual,(hg z).2,i.c]⟩⟩ i.here hp h
end
noncomputable def ae4(k n:av):aa Nat:=(Nat.rec (λ_ l=>l) (λ_ ih n l=>cond (Zw n 0) l<|ih (n/32)<|n%32::l) k:av->aa av->aa av) n []
noncomputable def QC(n:av):aa (aa av):=(ae4 999 n).foldr (λc p=>cond (Zw c 28) ([]::p)<|(cond (Zw c 27) 95 (c+96)::p.headD [])::p.tail) [[]]
noncomputable def abo(l:aa av):ag Str:=cond l.isEmpty none<|some<|br l
noncomputable def iN(m n w fg:av)(mu:aa av)(b:ig):bx:=⟨(bp m).map λi=>br<|(QC w).getD i [],(bp n).map λi=>abo<|(QC w).getD i [],fg,mu,b⟩
noncomputable def oW:aa Nat:=[110,117,109,98,101,114,32,111,102,32,105,116,101,109,115,32,116,111,32,114,101,112,108,97,99,101,32,105,115,32,110,111,116,32,97,32,109,117,108,116,105,112,108,101,32,111,102,32,114,101,112,108,97,99,101,109,101,110,116,32,108,101,110,103,116,104]
noncomputable def y7:aa Nat:=[78,65,115,32,97,114,101,32,110,111,116,32,97,108,108,111,119,101,100,32,105,110,32,115,117,98,115,99,114,105,112,116,101,100,32,97,115,115,105,103,110,109,101,110,116,115]
noncomputable def Ws:aa Nat:=[99,97,110,39,116,32,109,105,120,32,112,111,115,105,116,105,118,101,32,97,110,100,32,110,101,103,97,116,105,118,101,32,115,117,98,115,99,114,105,112,116,115]
noncomputable def UA:aa Nat:=[40,115,117,98,115,99,114,105,112,116,41,32,108,111,103,105,99,97,108,32,115,117,98,115,99,114,105,112,116,32,116,111,111,32,108,111,110,103]
noncomputable def Kr:aa Nat:=[99,97,110,39,116,32,109,105,120,32,78,65,115,32,119,105,116,104,32,110,101,103,97,116,105,118,101,32,115,117,98,115,99,114,105,112,116,115]
noncomputable def FM:aa Nat:=[105,110,99,111,114,114,101,99,116,32,110,117,109,98,101,114,32,111,102,32,115,117,98,115,99,114,105,112,116,115]
noncomputable def oX:aa Nat:=[114,101,112,108,97,99,101,109,101,110,116,32,104,97,115,32,108,101,110,103,116,104,32,122,101,114,111]
noncomputable def wN:aa Nat:=[115,117,98,115,99,114,105,112,116,32,111,117,116,32,111,102,32,98,111,117,110,100,115]
noncomputable def fU:aa Nat:=[101,120,112,114,101,115,115,105,111,110]
noncomputable def aG:aa Nat:=[99,104,97,114,97,99,116,101,114]
noncomputable def ge:aa Nat:=[100,105,109,110,97,109,101,115]
noncomputable def iO:aa Nat:=[112,97,105,114,108,105,115,116]
noncomputable def k6:aa Nat:=[108,97,110,103,117,97,103,101]
noncomputable def bg:aa Nat:=[105,110,116,101,103,101,114]
noncomputable def sk:aa Nat:=[109,105,115,115,105,110,103]
noncomputable def bt:aa Nat:=[108,111,103,105,99,97,108]
noncomputable def bk:aa Nat:=[100,111,117,98,108,101]
noncomputable def ov:aa Nat:=[102,105,120,101,100]
noncomputable def i5:aa Nat:=[110,97,109,101,115]
noncomputable def dL:aa Nat:=[108,105,115,116]
noncomputable def Do:aa Nat:=[70,65,76,83,69]
noncomputable def Ij:aa Nat:=[45,73,110,102]
noncomputable def dQ:aa Nat:=[78,85,76,76]
noncomputable def tZ:aa Nat:=[84,82,85,69]
noncomputable def kM:aa Nat:=[100,105,109]
noncomputable def QD:aa Nat:=[73,110,102]
noncomputable def QE:aa Nat:=[78,97,78]
noncomputable def UB:aa Nat:=[50,46,53]
noncomputable def Ks:Ex:=.v (.h 4<|.a (.b 0)<|.a (.b 1) .b) 9 (.b<|.a (.b 3) .b) .b
noncomputable def Dp:Ex:=.v (.k .Lm<|.a (.i .Add (.d 97)<|.b 11) .b) 11 (.b<|.a (.b 10) .b) .b
noncomputable def Kt:Ex:=.v (.w (.f .Eq (.i .Mod (.h 0<|.a (.b 0) .b)<|.d 3)<|.d 2) .o Dp) 10 (.a<|.b 2) .b
noncomputable def Ku:Ex:=.v (.w (.f .Is (.b 12) .o) (.A 1 .b)<|.A 0<|.a (.g aG)<|.a (.b 12) .b) 12 (.a<|.b 6) .b
noncomputable def Kv:Ex:=.v (.m (.r<|.a (.g [114])<|.a (.g [115])<|.a (.g [116]) .b)<|.b 13) 13 (.b<|.a (.k .cn<|.a (.b 2) .b) .b) .b
noncomputable def Dq:Ex:=.f .Eq (.i .Mod (.h 0<|.a (.b 0) .b)<|.d 2)<|.d 1
noncomputable def Wt:Ex:=.f .Eq (.p .Ba (.b 6)<|.a .o .b)<|.k .cn<|.a (.b 6) .b
noncomputable def ae5:Ex:=.F [i5]<|.a (.A 0<|.a (.g aG)<|.a (.b 7) .b) .b
noncomputable def abp:Ex:=.A 0<|.a (.g bg)<|.a (.k .list<|.a (.b 2) .b) .b
noncomputable def abq:Ex:=.A 0<|.a (.b 1)<|.a Ks<|.a (.F [kM]<|.a abp .b) .b
noncomputable def QF:ig:=.a (.b Dq (.a (.a 7 Kv)<|.a (.m (.b 8) 2 ae5) .b) .b)<|.a (.h (.l (.b 5) 2) (.g ge)<|.b 8) .b
noncomputable def QG:ig:=.a (.a 6 Kt)<|.a (.b Wt (.a (.a 6 .o) .b)<|.a (.a 8<|.A 0<|.a (.g dL)<|.a Ku .b) QF) .b
noncomputable def y8:ig:=.a (.c<|.t<|.a (.b 5)<|.a (.b 2)<|.a (.b 6)<|.a (.b 7) .b) .b
noncomputable def QH:ig:=.a (.a 6 .o)<|.a (.a 7 .o)<|.a (.b Dq QG .b) y8
noncomputable def QI:ig:=.a (.a 3<|.i .Mult (.b 3)<|.b 4) .b
noncomputable def Ik:ig:=.a (.a 3<|.d 1)<|.a (.e 4 (.a<|.b 2) QI)<|.a (.a 5 abq) QH
noncomputable def QJ:Ex:=.w (.f .GtE (.b 2)<|.d 0) (.b 2)<|.i .Sub (.d 7)<|.b 2
noncomputable def abr:ig:=.a (.d<|.p .append (.b 1)<|.a (.i .Mod (.b 3)<|.d 1024) .b)<|.a (.a 3<|.i .FloorDiv (.b 3)<|.d 1024) .b
noncomputable def Wu:ig:=.a (.b (.f .Gt (.b 3)<|.d 0) abr .b) .b
noncomputable def Il:ig:=.a (.a 3 QJ)<|.a (.d<|.p .append (.b 1)<|.a (.i .Mod (.b 3)<|.d 1024) .b)<|.a (.a 3<|.i .FloorDiv (.b 3)<|.d 1024)<|.a (.e 4 (.b<|.a (.d 30) .b) Wu) .b
noncomputable def QK:ig:=.a (.a 1<|.tG (.b 1)<|.d 160)<|.a (.d<|.p .reverse (.b 1) .b)<|.a (.f<|.b 1) .b
noncomputable def l_1:Sx:=.a 9<|.h 9<|.a (.b 4) .b
noncomputable def l_2:Sx:=.a 10<|.v (.h 11<|.a (.b 1) .b) 23 (.a<|.b 5) .b
noncomputable def l_3:Sx:=.a 11<|.i .Mod (.h 0<|.a (.b 1) .b)<|.d 5
noncomputable def l_4:Sx:=.a 12<|.A 1 .b
noncomputable def l_5:Sx:=.b (.f .Lt (.b 11)<|.d 4) (.a (.a 12<|.A 0<|.a (.m (.b 2)<|.b 11)<|.a (.v (.h 4<|.a (.b 1)<|.a (.m (.b 2)<|.b 11) .b) 24 (.b<|.a (.i .Mod (.h 0<|.a (.b 1) .b)<|.d 7) .b) .b) .b) .b) .b
noncomputable def l_6:Sx:=.a 13<|.h 9<|.a (.b 12) .b
noncomputable def l_7:Sx:=.a 14<|.w (.f .Eq (.l (.b 12) 0)<|.g dQ) (.d 0)<|.k .cn<|.a (.l (.b 12) 1) .b
noncomputable def l_8:Sx:=.a 15<|.h 12<|.a (.b 10)<|.a (.b 5)<|.a (.b 6) .b
noncomputable def l_9:Sx:=.a 16<|.w (.k .isStr<|.a (.b 15) .b) (.r .b)<|.h 13<|.a (.b 15)<|.a (.b 5) .b
noncomputable def Mr:Sx:=.a 17<|.r .b
noncomputable def Ms:Sx:=.a 18<|.H<|.h 67<|.a (.b 4)<|.a (.b 10)<|.a (.b 12)<|.a (.b 17) .b
noncomputable def Yf:Sx:=.b (.q .Or<|.a (.f .NotEq (.h 9<|.a (.b 4) .b)<|.b 9)<|.a (.f .NotEq (.h 9<|.a (.b 12) .b)<|.b 13)<|.a (.f .NotEq (.b 17)<|.r .b) .b) (.a (.c .ED) .b) .b
noncomputable def Im:Ex:=.m (.b 2)<|.k .pi<|.a (.p .qx (.b 2)<|.a (.m (.b 9)<|.d 0) .b)<|.a (.p .qx (.b 2)<|.a (.l (.b 12) 0) .b) .b
noncomputable def FN:Ex:=.v (.h 6<|.a (.m (.b 9)<|.d 0)<|.a (.b 25)<|.a (.b 20) .b) 25 (.a<|.m (.b 9)<|.d 1) .b
noncomputable def Kw:ig:=.a (.b (.f .IsNot (.m (.b 16)<|.b 22) .o) (.a (.h (.b 21) (.m (.b 16)<|.b 22)<|.h 6<|.a (.l (.b 12) 0)<|.a (.m (.l (.b 12) 1)<|.i .Mod (.b 22)<|.b 14)<|.a (.b 20) .b) .b) .b) .b
noncomputable def FO:ig:=.a (.a 20 Im)<|.a (.a 21 FN)<|.a (.e 22 (.b<|.a (.k .cn<|.a (.b 16) .b) .b) Kw)<|.a (.a 19<|.t<|.a (.b 20)<|.a (.b 21)<|.a (.m (.b 9)<|.d 2) .b) .b
noncomputable def y9:Sx:=.b (.k .isStr<|.a (.b 15) .b) (.a (.a 19<|.b 15) .b)<|.a (.b (.q .And<|.a (.f .NotEq (.b 16)<|.r .b)<|.a (.f .Eq (.b 14)<|.d 0) .b) (.a (.a 19<|.g oX) .b)<|.a (.b (.f .Eq (.l (.b 12) 0)<|.g dQ) (.a (.a 19<|.b 9) .b)<|.a (.b (.q .And<|.a (.f .NotEq (.b 16)<|.r .b)<|.a (.f .NotEq (.i .Mod (.k .cn<|.a (.b 16) .b)<|.b 14)<|.d 0) .b) (.a (.a 19<|.g oW) .b)<|.a (.b (.q .And<|.a (.f .In .o<|.b 16)<|.a (.f .Gt (.b 14)<|.d 1) .b) (.a (.a 19<|.g y7) .b) FO) .b) .b) .b) .b
noncomputable def Yg:Sx:=.b (.f .NotEq (.h 9<|.a (.b 18) .b)<|.b 19) (.a (.c .ED) .b) .b
noncomputable def UC:Sx:=.b (.E<|.k .isStr<|.a (.b 18) .b) (.a (.a 4<|.b 18) .b) .b
noncomputable def ru:ig:=.a l_1<|.a l_2<|.a l_3<|.a l_4<|.a l_5<|.a l_6<|.a l_7<|.a l_8<|.a l_9<|.a Mr<|.a Ms<|.a Yf<|.a y9<|.a Yg<|.a UC .b
noncomputable def abt:Sx:=.e 8 (.b<|.a (.i .Add (.d 1)<|.i .Mod (.h 0<|.a (.b 1) .b)<|.d 2) .b) ru
noncomputable def Yh:Sx:=.a 18<|.H<|.h 67<|.a (.b 4)<|.a (.i .Mult (.r<|.a (.A 2 .b) .b)<|.i .Add (.k .cn<|.a (.b 5) .b)<|.d 1)<|.a (.A 0<|.a (.g bg)<|.a (.r<|.a (.d 1) .b) .b)<|.a (.r .b) .b
noncomputable def abu:Sx:=.c<|.f .Eq (.b 18)<|.g FM
noncomputable def QL:ig:=.a abt<|.a Yh<|.a abu .b
noncomputable def za:ig:=.a (.a 2<|.r<|.a (.g bt)<|.a (.g bg)<|.a (.g bk)<|.a (.g aG) .b)<|.a (.a 3<|.m (.b 2)<|.i .Mod (.h 0<|.a (.b 1) .b)<|.d 4)<|.a (.i [4,5,6,7]<|.h 68<|.a (.b 1)<|.a (.b 3) .b) QL
noncomputable def lD:ig:=.a (.b (.q .Or<|.a (.f .Is (.b 3) .o)<|.a (.q .And<|.a (.f .Eq (.b 0)<|.g bk)<|.a (.f .Eq (.m (.b 3)<|.d 1)<|.d 0) .b) .b) (.a (.d<|.p .append (.b 2)<|.a .o .b) .b)<|.a (.b (.f .Eq (.b 0)<|.g bk) (.a (.d<|.p .append (.b 2)<|.a (.w (.f .GtE (.m (.b 3)<|.d 0)<|.d 0) (.i .FloorDiv (.m (.b 3)<|.d 0)<|.m (.b 3)<|.d 1)<|.C<|.i .FloorDiv (.C<|.m (.b 3)<|.d 0)<|.m (.b 3)<|.d 1) .b) .b)<|.a (.d<|.p .append (.b 2)<|.a (.b 3) .b) .b) .b) .b
noncomputable def iP:ig:=.a (.b (.q .Or<|.a (.f .Is (.b 2) .o)<|.a (.f .Eq (.m (.b 2)<|.d 1)<|.d 0) .b) (.a (.d<|.p .append (.b 1)<|.a .o .b) .b)<|.a (.d<|.p .append (.b 1)<|.a (.h 38<|.a (.b 2) .b) .b) .b) .b
noncomputable def t0:ig:=.a (.a 5<|.m (.b 0)<|.i .Mod (.b 4)<|.b 2)<|.a (.b (.f .Is (.b 5) .o) (.a (.d<|.p .append (.b 3)<|.a .o .b) .b)<|.a (.b (.f .NotEq (.b 5)<|.d 0) (.a (.d<|.p .append (.b 3)<|.a (.b 4) .b) .b) .b) .b) .b
noncomputable def v4:ig:=.a (.a 3<|.m (.b 0)<|.b 2)<|.a (.b (.q .And<|.a (.f .IsNot (.b 3) .o)<|.a (.f .NotEq (.b 3)<|.g [])<|.a (.f .NotIn (.b 3)<|.b 1) .b) (.a (.h (.b 1) (.b 3)<|.b 2) .b) .b) .b
noncomputable def jy:ig:=.a (.b (.q .And<|.a (.f .IsNot (.b 4) .o)<|.a (.f .In (.b 4)<|.b 2) .b) (.a (.d<|.p .append (.b 3)<|.a (.m (.b 2)<|.b 4) .b) .b)<|.a (.d<|.p .append (.b 3)<|.a .o .b) .b) .b
noncomputable def FP:ig:=.a (.a 7<|.m (.l (.b 0) 1)<|.i .Mod (.b 6)<|.k .cn<|.a (.l (.b 0) 1) .b)<|.a (.b (.f .NotEq (.b 7)<|.d 0) (.a (.d<|.p .append (.b 5)<|.a (.w (.f .Eq (.b 7)<|.d 1) (.b 6) .o) .b) .b) .b) .b
noncomputable def oy:ig:=.a (.a 9<|.q .And<|.a (.f .IsNot (.b 7) .o)<|.a (.f .NotEq (.b 7)<|.g []) .b)<|.a (.b (.q .And<|.a (.b 9)<|.a (.f .IsNot (.b 2) .o)<|.a (.f .In (.b 7)<|.b 2) .b) (.a (.d<|.p .append (.b 5)<|.a (.p .qx (.b 2)<|.a (.b 7) .b) .b) .b)<|.a (.b (.E<|.b 3) (.a (.d<|.p .append (.b 5)<|.a .o .b) .b)<|.a (.b (.q .And<|.a (.b 9)<|.a (.f .In (.b 7)<|.b 8) .b) (.a (.d<|.p .append (.b 5)<|.a (.i .Add (.b 1)<|.p .qx (.b 8)<|.a (.b 7) .b) .b) .b)<|.a (.d<|.p .append (.b 5)<|.a (.i .Add (.b 1)<|.k .cn<|.a (.b 8) .b) .b)<|.a (.d<|.p .append (.b 8)<|.a (.b 7) .b) .b) .b) .b) .b
noncomputable def rv:ig:=.a (.a 5<|.m (.b 3)<|.b 4)<|.a (.b (.f .Is (.b 5) .o) (.a (.b (.f .Eq (.l (.b 0) 0)<|.g aG) (.a (.g<|.g wN) .b) .b) .b)<|.a (.b (.f .GtE (.b 5)<|.b 1) (.a (.g<|.g wN) .b) .b) .b) .b
noncomputable def kj:ig:=.a (.b (.q .Or<|.a (.q .And<|.a (.f .Is (.b 8) .o)<|.a (.f .Eq (.l (.b 4) 0)<|.g aG) .b)<|.a (.q .And<|.a (.f .IsNot (.b 8) .o)<|.a (.f .GtE (.b 8)<|.b 5) .b) .b) (.a (.c<|.g wN) .b) .b) .b
noncomputable def fV:ig:=.a (.b (.q .And<|.a (.f .Eq (.l (.b 4) 0)<|.g bt)<|.a (.f .Gt (.k .cn<|.a (.l (.b 4) 1) .b)<|.b 5) .b) (.a (.c<|.g UA) .b) .b)<|.a (.a 7<|.h 3<|.a (.b 4)<|.a (.b 5)<|.a (.w (.f .Is (.b 2) .o) .o<|.m (.b 2)<|.b 6)<|.a .ED .b)<|.a (.b (.k .isStr<|.a (.b 7) .b) (.a (.c<|.b 7) .b) .b)<|.a (.e 8 (.a<|.m (.b 7)<|.d 0) kj)<|.a (.d<|.p .append (.b 3)<|.a (.m (.b 7)<|.d 0) .b) .b
noncomputable def gX:ig:=.a (.a 6 .o)<|.a (.b (.f .IsNot (.b 3) .o) (.a (.a 6<|.m (.b 3)<|.b 5) .b) .b)<|.a (.d<|.p .append (.b 4)<|.a (.h 52<|.a (.m (.b 2)<|.b 5)<|.a (.m (.b 1)<|.b 5)<|.a (.b 6) .b) .b) .b
noncomputable def pF:ig:=.a (.b (.q .Or<|.a (.f .Is (.b 6) .o)<|.a (.f .Is (.b 7) .o) .b) (.a (.d<|.p .append (.b 5)<|.a .o .b) .b)<|.a (.d<|.p .append (.b 5)<|.a (.i .Add (.b 6)<|.i .Mult (.b 7)<|.m (.b 2)<|.b 4) .b) .b) .b
noncomputable def i6:ig:=.a (.e 7 (.a<|.m (.b 1)<|.b 4) pF) .b
noncomputable def i7:ig:=.a (.a 5<|.r .b)<|.a (.e 6 (.a<|.b 3) i6)<|.a (.a 3<|.b 5) .b
noncomputable def ry:ig:=.a (.d<|.p .append (.b 1)<|.a (.b 2) .b)<|.a (.a 2<|.i .Mult (.b 2)<|.b 3) .b
noncomputable def gY:ig:=.a (.b (.f .Is (.b 2) .o) (.a (.g<|.g y7) .b) .b) .b
noncomputable def qC:ig:=.a (.b (.q .And<|.a (.f .IsNot (.b 2) .o)<|.a (.f .GtE (.b 2)<|.b 1) .b) (.a (.a 1<|.i .Add (.b 2)<|.d 1) .b) .b) .b
noncomputable def io:ig:=.a (.a 2<|.mT (.w (.q .Or<|.a (.f .Is (.b 7) .o)<|.a (.f .Is (.b 6) .o) .b) .o<|.i .Add (.b 7)<|.i .Mult (.b 6)<|.b 3) 6 (.a<|.b 4) 7<|.a<|.b 2)<|.a (.a 3<|.i .Mult (.b 3)<|.b 5) .b
noncomputable def Kx:ig:=.a (.b (.f .Is (.b 5) .o) (.a (.a 4 .N4)<|.a (.d<|.p .append (.b 2)<|.a .o .b) .b)<|.a (.b (.f .Gt (.b 5)<|.d 0) (.a (.d<|.p .append (.b 2)<|.a (.i .Sub (.b 5)<|.d 1) .b) .b)<|.a (.b (.f .Lt (.b 5)<|.d 0) (.a (.h (.b 3) (.i .Sub (.C<|.b 5)<|.d 1) .N4) .b) .b) .b) .b) .b
noncomputable def Dr:ig:=.a (.a 11<|.v (.b 12) 12 (.a<|.b 10)<|.a (.q .And<|.a (.f .IsNot (.b 12) .o)<|.a (.f .Lt (.b 12)<|.d 0) .b) .b)<|.a (.b (.f .Eq (.b 11)<|.r .b) (.a (.c<|.t<|.a (.v (.w (.f .Is (.b 13) .o) .o<|.i .Sub (.b 13)<|.d 1) 13 (.a<|.b 10)<|.a (.f .NotEq (.b 13)<|.d 0) .b)<|.a .o .b) .b) .b)<|.a (.b (.f .In .o<|.b 10) (.a (.c<|.g Kr) .b) .b)<|.a (.b (.f .Gt (.k .Ll<|.a (.b 10) .b)<|.d 0) (.a (.c<|.g Ws) .b) .b)<|.a (.c<|.t<|.a (.v (.b 14) 14 (.b<|.a (.b 1) .b)<|.a (.f .NotIn (.i .Sub (.C<|.b 14)<|.d 1)<|.b 10) .b)<|.a .o .b) .b
noncomputable def qh:ig:=.a (.b (.f .IsNot (.m (.b 1)<|.b 5) .o) (.a (.a 6<|.m (.b 2)<|.i .Mod (.b 5)<|.b 3)<|.a (.b (.b 4) (.a .o .b) .b)<|.a (.h (.l (.b 0) 1) (.m (.b 1)<|.b 5)<|.b 6) .b) .b) .b
noncomputable def Wv:ig:=.a (.b (.f .NotEq (.i .Mod (.k .cn<|.a (.b 1) .b)<|.k .cn<|.a (.l (.b 3) 1) .b)<|.d 0) (.a (.d<|.p .append (.b 4)<|.a (.g oW) .b) .b) .b)<|.a (.a 8<|.h 58<|.a (.b 3)<|.a (.b 6)<|.a (.b 4) .b)<|.a (.a 9<|.h 64<|.a (.b 1) .b)<|.a (.b (.f .Gt (.b 9)<|.k .cn<|.a (.l (.b 7) 1) .b) (.a .o .b) .b)<|.a (.d<|.h 62<|.a (.b 7)<|.a (.b 1)<|.a (.b 8) .b)<|.a (.c<|.b 7) .b
noncomputable def Ww:ig:=.a (.b (.q .And<|.a (.f .Gt (.k .cn<|.a (.b 1) .b)<|.d 0)<|.a (.f .Eq (.k .cn<|.a (.l (.b 3) 1) .b)<|.d 0) .b) (.a (.g<|.g oX) .b) .b)<|.a (.a 7<|.h 59<|.a (.b 0)<|.a (.b 6)<|.a (.b 4) .b)<|.a (.b (.f .Eq (.k .cn<|.a (.b 1) .b)<|.d 0) (.a (.c<|.b 7) .b) .b) Wv
noncomputable def zb:bx:=iN 1 1 18935 0 []<|.a (.c<|.w (.f .NotEq (.b 0)<|.r .b) (.p .Tk (.b 0) .b)<|.d 0) .b
noncomputable def sQ:bx:=iN 2 4 15977023362 0 []<|.a (.a 2<|.k .EC<|.a (.b 0) .b)<|.a (.a 3<|.b 1)<|.a (.l (.f .Gt (.b 3)<|.d 0)<|.a (.i [2,3]<|.t<|.a (.b 3)<|.a (.i .Mod (.b 2)<|.b 3) .b) .b)<|.a (.c<|.t<|.a (.i .FloorDiv (.b 0)<|.b 2)<|.a (.i .FloorDiv (.b 1)<|.b 2) .b) .b
noncomputable def BL:bx:=iN 2 4 14318203450624959043570600562861 0 [2]<|.a (.a 2<|.r .b)<|.a (.e 3 (.a<|.b 1) lD)<|.a (.c<|.b 2) .b
noncomputable def BM:bx:=iN 4 15 20395751971561205098598451570580799599864388614594023844433605081161915497407025097282384819100 1 [5,8]<|.a (.a 4<|.l (.b 0) 0)<|.a (.b (.f .Eq (.b 4)<|.g sk) (.a (.c<|.t<|.a (.k .lT<|.a (.b 1) .b)<|.a .o .b) .b) .b)<|.a (.b (.f .Eq (.b 4)<|.g dQ) (.a (.c<|.t<|.a (.r .b)<|.a .o .b) .b) .b)<|.a (.b (.f .Eq (.b 4)<|.g dL) (.a (.c<|.g [105,110,118,97,108,105,100,32,115,117,98,115,99,114,105,112,116,32,116,121,112,101,32,39,108,105,115,116,39]) .b) .b)<|.a (.b (.f .Eq (.b 4)<|.g bt) (.a (.a 5<|.r .b)<|.a (.e 6 (.b<|.a (.w (.f .NotEq (.l (.b 0) 1)<|.r .b) (.k .pi<|.a (.b 1)<|.a (.k .cn<|.a (.l (.b 0) 1) .b) .b)<|.d 0) .b) FP)<|.a (.c<|.t<|.a (.b 5)<|.a .o .b) .b) .b)<|.a (.b (.f .Eq (.b 4)<|.g aG) (.a (.a 5<|.r .b)<|.a (.a 8<|.r .b)<|.a (.e 7 (.a<|.l (.b 0) 1) oy)<|.a (.c<|.t<|.a (.b 5)<|.a (.w (.b 3) (.b 8) .o) .b) .b) .b)<|.a (.a 10<|.h 2<|.a (.b 4)<|.a (.l (.b 0) 1) .b) Dr
noncomputable def m8:bx:=iN 2 3 21319912317545236535 1 []<|.a (.b (.f .Eq (.i .Mod (.h 0<|.a (.b 0) .b)<|.d 6)<|.d 5) (.a (.c .o) .b) .b)<|.a (.b (.f .Eq (.b 1)<|.g bt) (.a (.c<|.i .Mod (.h 0<|.a (.b 0) .b)<|.d 2) .b) .b)<|.a (.b (.f .Eq (.b 1)<|.g bg) (.a (.c<|.i .Sub (.i .Mod (.h 0<|.a (.b 0) .b)<|.d 40)<|.d 15) .b) .b)<|.a (.b (.f .Eq (.b 1)<|.g aG) (.a (.c<|.m (.r<|.a (.g [])<|.a (.g [97])<|.a (.g [98])<|.a (.g [49,48])<|.a (.g tZ)<|.a (.g UB)<|.a (.k .Lm<|.a (.i .Add (.d 32)<|.i .Mod (.h 0<|.a (.b 0) .b)<|.d 90) .b) .b)<|.i .Mod (.h 0<|.a (.b 0) .b)<|.d 7) .b) .b)<|.a (.a 2<|.i .Mod (.h 0<|.a (.b 0) .b)<|.d 10)<|.a (.b (.f .Eq (.b 2)<|.d 9) (.a (.c<|.m (.r<|.a (.t<|.a (.d 0)<|.a (.d 0) .b)<|.a (.t<|.a (.d 1)<|.a (.d 0) .b)<|.a (.t<|.a (.C<|.d 1)<|.a (.d 0) .b) .b)<|.i .Mod (.h 0<|.a (.b 0) .b)<|.d 3) .b) .b)<|.a (.c<|.h 1<|.a (.i .Sub (.i .Mod (.h 0<|.a (.b 0) .b)<|.d 300)<|.d 100)<|.a (.m (.r<|.a (.d 1)<|.a (.d 1)<|.a (.d 2)<|.a (.d 4) .b)<|.i .Mod (.b 2)<|.d 4) .b) .b
noncomputable def pG:bx:=iN 2 4 447443857832039790211195455635 0 []<|.a (.b (.q .Or<|.a (.f .Is (.b 1) .o)<|.a (.f .Eq (.b 0)<|.g aG) .b) (.a (.c<|.b 1) .b) .b)<|.a (.b (.f .Eq (.b 0)<|.g bt) (.a (.c<|.m (.r<|.a (.g Do)<|.a (.g tZ) .b)<|.b 1) .b) .b)<|.a (.b (.f .Eq (.b 0)<|.g bg) (.a (.c<|.k .str<|.a (.b 1) .b) .b) .b)<|.a (.b (.f .Eq (.m (.b 1)<|.d 1)<|.d 0) (.a (.c<|.m (.r<|.a (.g QE)<|.a (.g QD)<|.a (.g Ij) .b)<|.m (.b 1)<|.d 0) .b) .b)<|.a (.a 2<|.k .EC<|.a (.m (.b 1)<|.d 0) .b)<|.a (.a 3<|.i .Add (.w (.f .Lt (.m (.b 1)<|.d 0)<|.d 0) (.g [45])<|.g [])<|.k .str<|.a (.i .FloorDiv (.b 2)<|.m (.b 1)<|.d 1) .b)<|.a (.c<|.i .Add (.b 3)<|.m (.qa [1,2,4]<|.a (.g [])<|.a (.g [46,53])<|.a (.i .Add (.g [46])<|.k .str<|.a (.i .Mult (.d 25)<|.i .Mod (.b 2)<|.d 4) .b) .b)<|.m (.b 1)<|.d 1) .b
noncomputable def FQ:bx:=iN 3 3 406947818039079567 1 []<|.a (.b (.f .Eq (.b 0)<|.b 2) (.a (.c<|.b 1) .b) .b)<|.a (.b (.f .Eq (.b 2)<|.g aG) (.a (.c<|.h 5<|.a (.b 0)<|.a (.b 1) .b) .b) .b)<|.a (.b (.f .Eq (.b 2)<|.g bk) (.a (.c<|.w (.f .Is (.b 1) .o) .o<|.t<|.a (.b 1)<|.a (.d 1) .b) .b) .b)<|.a (.c<|.b 1) .b
noncomputable def Ds:bx:=iN 1 4 25153094897564 0 []<|.a (.b (.k .isStr<|.a (.b 0) .b) (.a (.c<|.b 0) .b) .b)<|.a (.b (.f .Eq (.l (.b 0) 0)<|.g dQ) (.a (.c<|.g dQ) .b) .b)<|.a (.a 1<|.F [] .b)<|.a (.b (.f .IsNot (.l (.b 0) 2) .o) (.a (.a 1<|.G (.b 2) .B 2<|.a<|.l (.b 0) 2) .b) .b)<|.a (.b (.f .In (.l (.b 0) 0)<|.t<|.a (.g dL)<|.a (.g fU)<|.a (.g iO) .b) (.a (.c<|.t<|.a (.l (.b 0) 0)<|.a (.v .B 3 (.a<|.l (.b 0) 1) .b)<|.a (.b 1) .b) .b) .b)<|.a (.c<|.t<|.a (.l (.b 0) 0)<|.a (.k .list<|.a (.l (.b 0) 1) .b)<|.a (.b 1) .b) .b
noncomputable def uL:bx:=iN 1 4 25153094897564 1 []<|.a (.b (.k .isStr<|.a (.b 0) .b) (.a (.c<|.b 0) .b) .b)<|.a (.b (.f .Eq (.l (.b 0) 0)<|.g dQ) (.a (.c<|.g dQ) .b) .b)<|.a (.a 1<|.F [] .b)<|.a (.b (.f .IsNot (.l (.b 0) 2) .o) (.a (.a 1<|.G (.b 2) (.h 7<|.a (.m (.l (.b 0) 2)<|.b 2) .b) 2<|.a<|.l (.b 0) 2) .b) .b)<|.a (.b (.f .In (.l (.b 0) 0)<|.t<|.a (.g dL)<|.a (.g fU)<|.a (.g iO) .b) (.a (.c<|.t<|.a (.l (.b 0) 0)<|.a (.v (.h 7<|.a (.b 3) .b) 3 (.a<|.l (.b 0) 1) .b)<|.a (.b 1) .b) .b) .b)<|.a (.c<|.t<|.a (.l (.b 0) 0)<|.a (.k .list<|.a (.l (.b 0) 1) .b)<|.a (.b 1) .b) .b
noncomputable def uM:bx:=iN 1 4 25153094897564 2 []<|.a (.b (.k .isStr<|.a (.b 0) .b) (.a (.c<|.b 0) .b) .b)<|.a (.b (.f .Eq (.l (.b 0) 0)<|.g dQ) (.a (.c<|.g dQ) .b) .b)<|.a (.a 1<|.F [] .b)<|.a (.b (.f .IsNot (.l (.b 0) 2) .o) (.a (.a 1<|.G (.b 2) (.h 8<|.a (.m (.l (.b 0) 2)<|.b 2) .b) 2<|.a<|.l (.b 0) 2) .b) .b)<|.a (.b (.f .In (.l (.b 0) 0)<|.t<|.a (.g dL)<|.a (.g fU)<|.a (.g iO) .b) (.a (.c<|.t<|.a (.l (.b 0) 0)<|.a (.v (.h 8<|.a (.b 3) .b) 3 (.a<|.l (.b 0) 1) .b)<|.a (.b 1) .b) .b) .b)<|.a (.c<|.t<|.a (.l (.b 0) 0)<|.a (.k .list<|.a (.l (.b 0) 1) .b)<|.a (.b 1) .b) .b
noncomputable def m9:bx:=iN 1 8 768130793350957013616761056254653340 2 []<|.a (.b (.f .Eq (.i .Mod (.h 0<|.a (.b 0) .b)<|.d 3)<|.d 0) (.a (.c<|.A 2 .b) .b) .b)<|.a (.a 1<|.i .Mod (.h 0<|.a (.b 0) .b)<|.d 6)<|.a (.a 2<|.i .Mod (.h 0<|.a (.b 0) .b)<|.d 4)<|.a (.b (.f .Lt (.b 1)<|.d 3) (.a (.a 3<|.w (.f .Eq (.b 1)<|.d 2) (.C<|.d 1)<|.d 1)<|.a (.c<|.A 0<|.a (.g bg)<|.a (.v (.i .Mult (.b 3)<|.i .Mod (.h 0<|.a (.b 0) .b)<|.d 4) 4 (.b<|.a (.b 2) .b) .b) .b) .b) .b)<|.a (.b (.f .Eq (.b 1)<|.d 3) (.a (.c<|.A 0<|.a (.g bt)<|.a (.v (.m (.r<|.a (.d 1)<|.a (.d 0)<|.a .o .b)<|.i .Mod (.h 0<|.a (.b 0) .b)<|.d 3) 5 (.b<|.a (.b 2) .b) .b) .b) .b) .b)<|.a (.b (.f .Eq (.b 1)<|.d 4) (.a (.c<|.A 0<|.a (.g aG)<|.a (.v (.m (.r<|.a (.g [97])<|.a (.g [98])<|.a (.g [99])<|.a (.g [122])<|.a .o .b)<|.i .Mod (.h 0<|.a (.b 0) .b)<|.d 5) 6 (.b<|.a (.b 2) .b) .b) .b) .b) .b)<|.a (.c<|.A 0<|.a (.g bk)<|.a (.v (.w (.f .Eq (.i .Mod (.h 0<|.a (.b 0) .b)<|.d 5)<|.d 4) .o<|.t<|.a (.d 3)<|.a (.d 2) .b) 7 (.b<|.a (.b 2) .b) .b) .b) .b
noncomputable def zc:bx:=iN 3 9 16681831255571498233148523779027745946332838487324115154483580863059750964 2 [3]<|.a (.a 3<|.r .b)<|.a (.k [4,5,6] (.b 0) (.b 1) (.k .cn<|.a (.b 1) .b) fV)<|.a (.c<|.b 3) .b
noncomputable def wO:bx:=iN 2 8 2690279796080227468292894874721848702352396438906295196 0 []<|.a (.a 2<|.r<|.a (.d 0) .b)<|.a (.a 3<|.d 1)<|.a (.n [4,5] (.b 0) (.b 1) io)<|.a (.c<|.b 2) .b
noncomputable def FR:bx:=iN 1 2 767927748 0 []<|.a (.a 1<|.l (.b 0) 0)<|.a (.b (.f .Eq (.b 1)<|.g dQ) (.a (.c<|.d 0) .b) .b)<|.a (.b (.q .Or<|.a (.k .wA<|.a (.b 0) .b)<|.a (.f .Eq (.b 1)<|.g k6) .b) (.a (.c<|.k .cn<|.a (.l (.b 0) 1) .b) .b) .b)<|.a (.b (.f .Eq (.b 1)<|.g [101,110,118,105,114,111,110,109,101,110,116]) (.a (.c<|.k .cn<|.a .B .b) .b) .b)<|.a (.b (.f .Eq (.b 1)<|.g [100,111,116,115]) (.a (.c<|.k .cn<|.a .B .b) .b) .b)<|.a (.c<|.d 1) .b
noncomputable def FS:bx:=iN 1 1 22 0 []<|.a (.c<|.k .wA<|.a (.b 0) .b) .b
noncomputable def Yi:bx:=iN 1 2 674420328387155 2 [1]<|.a (.a 1 .o)<|.a (.b (.f .IsNot (.l (.b 0) 2) .o) (.a (.a 1<|.k .dict<|.a (.l (.b 0) 2) .b) .b) .b)<|.a (.f<|.A 0<|.a (.l (.b 0) 0)<|.a (.k .list<|.a (.l (.b 0) 1) .b)<|.a (.b 1) .b) .b
noncomputable def Wx:bx:=iN 1 1 22 3 []<|.a (.b (.l (.b 0) 4) (.a (.f<|.b 0) .b) .b)<|.a (.f<|.D 2000<|.b 0) .b
noncomputable def Io:bx:=iN 2 2 768017829 0 []<|.a (.b (.f .Is (.l (.b 0) 2) .o) (.a (.c .o) .b) .b)<|.a (.c<|.p .vg (.l (.b 0) 2)<|.a (.b 1) .b) .b
noncomputable def FT:bx:=iN 1 2 767698355 1 []<|.a (.a 1<|.h 17<|.a (.b 0)<|.a (.g kM) .b)<|.a (.b (.f .Is (.b 1) .o) (.a (.c .o) .b) .b)<|.a (.c<|.k .list<|.a (.l (.b 1) 1) .b) .b
noncomputable def sR:bx:=iN 1 3 786196773020 1 []<|.a (.a 1<|.h 17<|.a (.b 0)<|.a (.g ge) .b)<|.a (.b (.f .Is (.b 1) .o) (.a (.c .o) .b) .b)<|.a (.c<|.v (.w (.f .Eq (.l (.b 2) 0)<|.g dQ) .o<|.k .list<|.a (.l (.b 2) 1) .b) 2 (.a<|.l (.b 1) 1) .b) .b
noncomputable def zd:bx:=iN 1 6 928714063743795996057391011894908 2 []<|.a (.b (.f .Eq (.l (.b 0) 0)<|.g k6) (.a (.e 1 (.a .B)<|.a (.b (.f .IsNot (.b 1) .o) (.a (.c<|.v (.w (.f .Is (.b 5) .o) (.g [])<|.b 5) 5 (.a .B) .b) .b) .b) .b)<|.a (.c .o) .b) .b)<|.a (.b (.f .Eq (.l (.b 0) 0)<|.g [101,110,118,105,114,111,110,109,101,110,116]) (.a (.c .B) .b) .b)<|.a (.a 2<|.h 18<|.a (.b 0) .b)<|.a (.b (.q .And<|.a (.f .IsNot (.b 2) .o)<|.a (.f .Eq (.k .cn<|.a (.b 2) .b)<|.d 1) .b) (.a (.a 3<|.h 19<|.a (.b 0) .b)<|.a (.c<|.w (.f .Is (.b 3) .o) .o<|.m (.b 3)<|.d 0) .b) .b)<|.a (.a 4<|.h 17<|.a (.b 0)<|.a (.g i5) .b)<|.a (.b (.f .Is (.b 4) .o) (.a (.c .o) .b) .b)<|.a (.c<|.k .list<|.a (.l (.b 4) 1) .b) .b
noncomputable def qD:bx:=iN 2 4 536100308695717492 0 []<|.a (.a 2<|.i .FloorDiv (.b 0)<|.b 1)<|.a (.a 3<|.i .Mult (.d 2)<|.i .Sub (.b 0)<|.i .Mult (.b 2)<|.b 1)<|.a (.b (.q .Or<|.a (.f .Gt (.b 3)<|.b 1)<|.a (.q .And<|.a (.f .Eq (.b 3)<|.b 1)<|.a (.f .Eq (.i .Mod (.b 2)<|.d 2)<|.d 1) .b) .b) (.a (.c<|.i .Add (.b 2)<|.d 1) .b) .b)<|.a (.c<|.b 2) .b
noncomputable def ze:bx:=iN 1 4 26724930437 0 []<|.a (.a 1<|.k .EC<|.a (.m (.b 0)<|.d 0) .b)<|.a (.a 2<|.m (.b 0)<|.d 1)<|.a (.a 3<|.d 0)<|.a (.l (.f .GtE (.b 1)<|.i .Mult (.d 10)<|.b 2)<|.a (.a 2<|.i .Mult (.b 2)<|.d 10)<|.a (.j 3 .Add<|.d 1) .b)<|.a (.l (.f .Lt (.b 1)<|.b 2)<|.a (.a 1<|.i .Mult (.b 1)<|.d 10)<|.a (.j 3 .Sub<|.d 1) .b)<|.a (.c<|.b 3) .b
noncomputable def uN:bx:=iN 1 4 17582255216446891624020 0 [2]<|.a (.a 1<|.k .EC<|.a (.b 0) .b)<|.a (.a 2<|.r .b)<|.a (.l (.f .GtE (.b 1)<|.i .Pow (.d 10)<|.d 18)<|.a (.i [1,3] .B)<|.a (.d<|.p .append (.b 2)<|.a (.p .yb (.k .str<|.a (.b 3) .b)<|.a (.d 18)<|.a (.g [48]) .b) .b) .b)<|.a (.d<|.p .append (.b 2)<|.a (.k .str<|.a (.b 1) .b) .b)<|.a (.b (.f .Lt (.b 0)<|.d 0) (.a (.d<|.p .append (.b 2)<|.a (.g [45]) .b) .b) .b)<|.a (.d<|.p .reverse (.b 2) .b)<|.a (.c<|.p .join (.g [])<|.a (.b 2) .b) .b
noncomputable def rz:bx:=iN 1 1 24 0 []<|.a (.b (.f .Is (.b 0) .o) (.a (.c<|.g [78,65]) .b) .b)<|.a (.b (.f .Gt (.m (.b 0)<|.d 1)<|.d 0) (.a (.c .o) .b) .b)<|.a (.b (.f .Eq (.m (.b 0)<|.d 0)<|.d 0) (.a (.c<|.g QE) .b) .b)<|.a (.c<|.w (.f .Gt (.m (.b 0)<|.d 0)<|.d 0) (.g QD)<|.g Ij) .b
noncomputable def FU:bx:=iN 3 4 939967833839107487048916 1 []<|.a (.a 3<|.i .Sub (.i .Sub (.b 2)<|.d 1)<|.b 1)<|.a (.b (.f .GtE (.b 3)<|.d 0) (.a (.c<|.h 21<|.a (.i .Mult (.k .EC<|.a (.m (.b 0)<|.d 0) .b)<|.i .Pow (.d 10)<|.b 3)<|.a (.m (.b 0)<|.d 1) .b) .b) .b)<|.a (.c<|.h 21<|.a (.k .EC<|.a (.m (.b 0)<|.d 0) .b)<|.a (.i .Mult (.m (.b 0)<|.d 1)<|.i .Pow (.d 10)<|.i .Sub (.d 0)<|.b 3) .b) .b
noncomputable def sS:bx:=iN 2 4 896367209813514126 2 []<|.a (.b (.f .Eq (.m (.b 0)<|.d 0)<|.d 0) (.a (.c<|.t<|.a (.d 0)<|.a (.i .Mult (.g [48])<|.b 1)<|.a (.d 0) .b) .b) .b)<|.a (.a 2<|.h 22<|.a (.b 0) .b)<|.a (.a 3<|.h 25<|.a (.b 0)<|.a (.b 2)<|.a (.b 1) .b)<|.a (.b (.f .GtE (.b 3)<|.i .Pow (.d 10)<|.b 1) (.a (.j 2 .Add<|.d 1)<|.a (.a 3<|.h 25<|.a (.b 0)<|.a (.b 2)<|.a (.b 1) .b) .b) .b)<|.a (.c<|.t<|.a (.w (.f .Gt (.m (.b 0)<|.d 0)<|.d 0) (.d 1)<|.C<|.d 1)<|.a (.k .str<|.a (.b 3) .b)<|.a (.b 2) .b) .b
noncomputable def rA:bx:=iN 1 2 693390677444 0 []<|.a (.a 1<|.k .cn<|.a (.b 0) .b)<|.a (.l (.q .And<|.a (.f .Gt (.b 1)<|.d 1)<|.a (.f .Eq (.m (.b 0)<|.i .Sub (.b 1)<|.d 1)<|.g [48]) .b)<|.a (.j 1 .Sub<|.d 1) .b)<|.a (.c<|.vz (.b 0)<|.b 1) .b
noncomputable def qi:bx:=iN 2 4 29386096892617524123412 1 []<|.a (.a 2<|.h 21<|.a (.i .Mult (.k .EC<|.a (.m (.b 0)<|.d 0) .b)<|.i .Pow (.d 10)<|.b 1)<|.a (.m (.b 0)<|.d 1) .b)<|.a (.a 3<|.p .yb (.h 23<|.a (.b 2) .b)<|.a (.i .Add (.b 1)<|.d 1)<|.a (.g [48]) .b)<|.a (.b (.f .Gt (.b 1)<|.d 0) (.a (.a 3<|.i .Add (.i .Add (.vz (.b 3)<|.i .Sub (.k .cn<|.a (.b 3) .b)<|.b 1)<|.g [46])<|.vA (.b 3)<|.i .Sub (.k .cn<|.a (.b 3) .b)<|.b 1) .b) .b)<|.a (.b (.f .Lt (.m (.b 0)<|.d 0)<|.d 0) (.a (.c<|.i .Add (.g [45])<|.b 3) .b) .b)<|.a (.c<|.b 3) .b
noncomputable def zf:bx:=iN 2 7 35508763485781931612932220741454915975189501140 3 []<|.a (.i [2,3,4]<|.h 26<|.a (.b 0)<|.a (.b 1) .b)<|.a (.a 5<|.k .cn<|.a (.h 27<|.a (.b 3) .b) .b)<|.a (.a 6<|.i .Add (.k .pi<|.a (.b 4)<|.a (.d 0) .b)<|.d 1)<|.a (.b (.f .Lt (.m (.b 0)<|.d 0)<|.d 0) (.a (.j 6 .Add<|.d 1) .b) .b)<|.a (.c<|.t<|.a (.b 5)<|.a (.b 6)<|.a (.k .pi<|.a (.i .Sub (.i .Sub (.b 5)<|.d 1)<|.b 4)<|.a (.d 0) .b)<|.a (.b 4) .b) .b
noncomputable def sT:bx:=iN 2 11 57823994462410271908941248502557509398565639666017104396522280708571762256955195033417972131165253742017942152 4 []<|.a (.a 2<|.d 1)<|.a (.a 3<|.d 1)<|.a (.a 4<|.d 0)<|.a (.a 5<|.d 0)<|.a (.a 6<|.d 0)<|.a (.e 7 (.a<|.b 0)<|.a (.a 8<|.h 29<|.a (.b 7)<|.a (.b 1) .b)<|.a (.a 2<|.k .pi<|.a (.b 2)<|.a (.m (.b 8)<|.d 0) .b)<|.a (.a 3<|.k .pi<|.a (.b 3)<|.a (.m (.b 8)<|.d 1) .b)<|.a (.a 4<|.k .pi<|.a (.b 4)<|.a (.m (.b 8)<|.d 2) .b)<|.a (.b (.f .GtE (.k .EC<|.a (.m (.b 8)<|.d 3) .b)<|.d 100) (.a (.a 5<|.k .pi<|.a (.b 5)<|.a (.i .Sub (.k .cn<|.a (.k .str<|.a (.k .EC<|.a (.m (.b 8)<|.d 3) .b) .b) .b)<|.d 2) .b) .b) .b)<|.a (.b (.f .Lt (.m (.b 7)<|.d 0)<|.d 0) (.a (.a 6<|.d 1) .b) .b) .b)<|.a (.a 9<|.i .Add (.b 3)<|.w (.f .Gt (.b 4)<|.d 0) (.i .Add (.b 4)<|.d 1)<|.d 0)<|.a (.a 10<|.i .Add (.i .Add (.i .Add (.b 6)<|.w (.f .Gt (.b 2)<|.d 1) (.i .Add (.b 2)<|.d 1)<|.d 1)<|.d 4)<|.b 5)<|.a (.b (.f .LtE (.b 9)<|.b 10) (.a (.c<|.t<|.a (.g ov)<|.a (.b 4) .b) .b) .b)<|.a (.c<|.t<|.a (.g [115,99,105,101,110,116,105,102,105,99])<|.a (.b 2) .b) .b
noncomputable def FV:bx:=iN 2 3 28013892442134292 2 []<|.a (.a 2<|.h 24<|.a (.b 0) .b)<|.a (.b (.f .IsNot (.b 2) .o) (.a (.c<|.b 2) .b) .b)<|.a (.b (.f .Eq (.m (.b 1)<|.d 0)<|.g ov) (.a (.c<|.h 28<|.a (.b 0)<|.a (.m (.b 1)<|.d 1) .b) .b) .b)<|.a (.c .B) .b
noncomputable def ng:bx:=iN 2 6 1047271073814880852405884844665210484636 5 []<|.a (.a 2<|.v (.b 4) 4 (.a<|.b 0)<|.a (.q .And<|.a (.f .IsNot (.b 4) .o)<|.a (.f .Gt (.m (.b 4)<|.d 1)<|.d 0) .b) .b)<|.a (.a 3<|.h 30<|.a (.b 2)<|.a (.b 1) .b)<|.a (.c<|.v (.h 31<|.a (.b 5)<|.a (.b 3) .b) 5 (.a<|.b 0) .b) .b
noncomputable def sU:bx:=iN 2 2 854842386067 6 []<|.a (.c<|.m (.h 32<|.a (.r<|.a (.b 0) .b)<|.a (.b 1) .b)<|.d 0) .b
noncomputable def Dt:bx:=iN 1 2 397409980299411 0 []<|.a (.a 1<|.t<|.a (.g dQ)<|.a (.g bt)<|.a (.g bg)<|.a (.g bk)<|.a (.g aG)<|.a (.g dL)<|.a (.g fU) .b)<|.a (.b (.f .In (.b 0)<|.b 1) (.a (.c<|.p .qx (.b 1)<|.a (.b 0) .b) .b) .b)<|.a (.c<|.d 5) .b
noncomputable def AJ:bx:=iN 1 4 14318193280860650466599439279556 1 []<|.a (.a 1<|.t<|.a (.g dQ)<|.a (.g bt)<|.a (.g bg)<|.a (.g bk)<|.a (.g aG)<|.a (.g dL)<|.a (.g fU) .b)<|.a (.a 2<|.d 0)<|.a (.e 3 (.a<|.b 0)<|.a (.a 2<|.k .pi<|.a (.b 2)<|.a (.h 34<|.a (.b 3) .b) .b) .b)<|.a (.c<|.m (.b 1)<|.b 2) .b
noncomputable def Ip:bx:=iN 1 1 14 0 []<|.a (.b (.f .Is (.b 0) .o) (.a (.c .o) .b) .b)<|.a (.c<|.t<|.a (.b 0)<|.a (.d 1) .b) .b
noncomputable def FW:bx:=iN 1 1 24 0 []<|.a (.c<|.q .And<|.a (.f .IsNot (.b 0) .o)<|.a (.f .Gt (.m (.b 0)<|.d 1)<|.d 0) .b) .b
noncomputable def Iq:bx:=iN 1 2 26716132804 1 []<|.a (.b (.E<|.h 37<|.a (.b 0) .b) (.a (.c .o) .b) .b)<|.a (.a 1<|.i .FloorDiv (.k .EC<|.a (.m (.b 0)<|.d 0) .b)<|.m (.b 0)<|.d 1)<|.a (.c<|.w (.f .GtE (.m (.b 0)<|.d 0)<|.d 0) (.b 1)<|.i .Sub (.d 0)<|.b 1) .b
noncomputable def FX:bx:=iN 3 3 13334866101504552980659 1 []<|.a (.b (.q .Or<|.a (.f .Eq (.b 0)<|.g bk)<|.a (.f .Is (.b 1) .o) .b) (.a (.c<|.b 1) .b) .b)<|.a (.b (.f .Eq (.b 0)<|.g aG) (.a (.c .B) .b) .b)<|.a (.c<|.h 36<|.a (.b 1) .b) .b
noncomputable def Du:bx:=iN 3 3 13334866101504552980659 0 []<|.a (.b (.f .Is (.b 1) .o) (.a (.c .o) .b) .b)<|.a (.b (.f .Eq (.b 0)<|.g aG) (.a (.c .B) .b) .b)<|.a (.b (.f .Eq (.b 0)<|.g bk) (.a (.c .B) .b) .b)<|.a (.c<|.b 1) .b
noncomputable def BN:bx:=iN 2 2 12419061829805 7 []<|.a (.b (.q .Or<|.a (.f .Is (.b 1) .o)<|.a (.f .Eq (.b 0)<|.g aG) .b) (.a (.c<|.b 1) .b) .b)<|.a (.b (.f .Eq (.b 0)<|.g bt) (.a (.c<|.w (.f .Eq (.b 1)<|.d 1) (.g tZ)<|.g Do) .b) .b)<|.a (.b (.f .Eq (.b 0)<|.g bg) (.a (.c<|.k .str<|.a (.b 1) .b) .b) .b)<|.a (.c<|.h 33<|.a (.b 1)<|.a (.d 15) .b) .b
noncomputable def v5:bx:=iN 1 1 370116 0 []<|.a (.c<|.f .In (.b 0)<|.t<|.a (.g bt)<|.a (.g bg)<|.a (.g bk)<|.a (.g aG) .b) .b
noncomputable def BO:bx:=iN 4 4 436956892414101398506426547 8 []<|.a (.b (.f .Eq (.b 0)<|.b 2) (.a (.c<|.b 1) .b) .b)<|.a (.b (.q .Or<|.a (.f .Eq (.b 2)<|.g dL)<|.a (.f .Eq (.b 2)<|.g fU)<|.a (.f .Eq (.b 2)<|.g iO) .b) (.a (.c<|.w (.h 42<|.a (.b 0) .b) .B<|.b 1) .b) .b)<|.a (.b (.E<|.h 42<|.a (.b 0) .b) (.a (.c .B) .b) .b)<|.a (.b (.f .Eq (.b 2)<|.g bt) (.a (.c .B) .b) .b)<|.a (.b (.f .Eq (.b 2)<|.g bg) (.a (.c<|.h 40<|.a (.b 0)<|.a (.b 1)<|.a (.b 3) .b) .b) .b)<|.a (.b (.f .Eq (.b 2)<|.g bk) (.a (.c<|.h 39<|.a (.b 0)<|.a (.b 1)<|.a (.b 3) .b) .b) .b)<|.a (.c<|.h 41<|.a (.b 0)<|.a (.b 1) .b) .b
noncomputable def Dx:bx:=iN 2 2 24576570547 0 []<|.a (.b (.f .IsNot (.b 1) .o) (.a (.m (.b 0) 2<|.F [i5]<|.a .B .b) .b) .b)<|.a (.c<|.b 0) .b
noncomputable def BP:bx:=iN 3 5 28331533301716047611211986556 9 []<|.a (.b (.E<|.k .wA<|.a (.b 0) .b) (.a (.c .B) .b) .b)<|.a (.a 3<|.l (.b 0) 1)<|.a (.b (.f .NotEq (.l (.b 0) 0)<|.b 1) (.a (.a 3<|.v (.h 43<|.a (.l (.b 0) 0)<|.a (.b 4)<|.a (.b 1)<|.a (.b 2) .b) 4 (.a<|.l (.b 0) 1) .b) .b) .b)<|.a (.c<|.h 44<|.a (.A 0<|.a (.b 1)<|.a (.k .list<|.a (.b 3) .b) .b)<|.a (.h 20<|.a (.b 0) .b) .b) .b
noncomputable def nh:bx:=iN 1 3 11272738202966085805 2 [1]<|.a (.b (.f .Eq (.l (.b 0) 0)<|.g bg) (.a (.c<|.l (.b 0) 1) .b) .b)<|.a (.a 1<|.r .b)<|.a (.e 2 (.a<|.l (.b 0) 1) iP)<|.a (.c<|.b 1) .b
noncomputable def v6:bx:=iN 2 6 13108083083393981613619759762399012638893 0 [3]<|.a (.a 2<|.k .cn<|.a (.b 0) .b)<|.a (.b (.f .Eq (.b 2)<|.d 0) (.a (.c<|.r .b) .b) .b)<|.a (.a 3<|.r .b)<|.a (.e 4 (.b<|.a (.k .pi<|.a (.b 1)<|.a (.b 2) .b) .b) t0)<|.a (.c<|.b 3) .b
noncomputable def rB:bx:=iN 2 7 14412489768063105894602151647737058847339382771946940 2 [2,3]<|.a (.a 2<|.r .b)<|.a (.a 3<|.qa [] .b)<|.a (.a 4 .ED)<|.a (.e 5 (.a<|.b 0) Kx)<|.a (.b (.f .Eq (.k .cn<|.a (.b 3) .b)<|.d 0) (.a (.c<|.b 2) .b) .b)<|.a (.b (.b 4) (.a (.g<|.g Kr) .b) .b)<|.a (.b (.f .Gt (.k .cn<|.a (.b 2) .b)<|.d 0) (.a (.g<|.g Ws) .b) .b)<|.a (.c<|.v (.b 6) 6 (.b<|.a (.b 1) .b)<|.a (.f .NotIn (.b 6)<|.b 3) .b) .b
noncomputable def rC:bx:=iN 1 4 543305456059153064921597349 0 [1]<|.a (.a 1<|.F [] .b)<|.a (.b (.f .IsNot (.b 0) .o) (.a (.e 2 (.b<|.a (.k .cn<|.a (.b 0) .b) .b) v4) .b) .b)<|.a (.c<|.b 1) .b
noncomputable def sV:bx:=iN 2 5 28127256462771114187956163453371575729180845 1 [3]<|.a (.a 2<|.h 49<|.a (.b 1) .b)<|.a (.a 3<|.r .b)<|.a (.e 4 (.a<|.b 0) jy)<|.a (.c<|.b 3) .b
noncomputable def wP:bx:=iN 4 5 396634612882787129813704942921156 3 []<|.a (.a 4<|.l (.b 0) 0)<|.a (.b (.f .Eq (.b 4)<|.g sk) (.a (.c<|.t<|.a (.k .lT<|.a (.b 1) .b)<|.a .o .b) .b) .b)<|.a (.b (.f .Eq (.b 4)<|.g dQ) (.a (.c<|.t<|.a (.r .b)<|.a .o .b) .b) .b)<|.a (.b (.f .Eq (.b 4)<|.g bt) (.a (.c<|.t<|.a (.h 47<|.a (.l (.b 0) 1)<|.a (.b 1) .b)<|.a .o .b) .b) .b)<|.a (.b (.q .Or<|.a (.f .Eq (.b 4)<|.g bg)<|.a (.f .Eq (.b 4)<|.g bk) .b) (.a (.c<|.t<|.a (.h 48<|.a (.h 46<|.a (.b 0) .b)<|.a (.b 1) .b)<|.a .o .b) .b) .b)<|.a (.b (.f .Eq (.b 4)<|.g aG) (.a (.b (.b 3) (.a (.c .B) .b) .b)<|.a (.c<|.t<|.a (.h 50<|.a (.l (.b 0) 1)<|.a (.b 2) .b)<|.a .o .b) .b) .b)<|.a (.g .B) .b
noncomputable def zg:bx:=iN 3 6 436091956680103152287980685317818312823276645 4 []<|.a (.b (.q .And<|.a (.f .Eq (.l (.b 0) 0)<|.g bt)<|.a (.f .Gt (.k .cn<|.a (.l (.b 0) 1) .b)<|.b 1) .b) (.a (.g<|.g UA) .b) .b)<|.a (.a 3<|.m (.h 51<|.a (.b 0)<|.a (.b 1)<|.a (.b 2)<|.a .ED .b)<|.d 0)<|.a (.e 4 (.b<|.a (.k .cn<|.a (.b 3) .b) .b) rv)<|.a (.c<|.b 3) .b
noncomputable def BQ:bx:=iN 1 4 174207743077576343400180615878100 0 [1]<|.a (.a 1<|.r .b)<|.a (.a 2<|.d 1)<|.a (.e 3 (.a<|.b 0) ry)<|.a (.c<|.b 1) .b
noncomputable def rD:bx:=iN 1 1 370116 0 []<|.a (.c<|.f .In (.b 0)<|.t<|.a (.g dL)<|.a (.g fU)<|.a (.g iO) .b) .b
noncomputable def AK:bx:=iN 1 1 370116 0 []<|.a (.b (.f .Eq (.b 0)<|.g iO) (.a (.c<|.g dL) .b) .b)<|.a (.c<|.b 0) .b
noncomputable def rE:bx:=iN 2 8 215658713558095782828359753967478939936500598358866764629093 1 [5]<|.a (.a 2<|.h 53<|.a (.b 0) .b)<|.a (.a 3<|.r<|.a (.d 0) .b)<|.a (.e 4 (.b<|.a (.i .Sub (.k .cn<|.a (.b 0) .b)<|.d 1)<|.a (.C<|.d 1)<|.a (.C<|.d 1) .b) i7)<|.a (.c<|.b 3) .b
noncomputable def kl:bx:=iN 3 7 1095695707129912275007170993598430355307109039831299251 5 [4]<|.a (.a 3<|.h 19<|.a (.b 0) .b)<|.a (.a 4<|.r .b)<|.a (.e 5 (.b<|.a (.k .cn<|.a (.b 1) .b) .b) gX)<|.a (.c<|.b 4) .b
noncomputable def oz:bx:=iN 3 3 824556141792448691 10 []<|.a (.b (.q .Or<|.a (.f .Eq (.l (.b 0) 0)<|.b 1)<|.a (.q .And<|.a (.h 54<|.a (.l (.b 0) 0) .b)<|.a (.h 54<|.a (.b 1) .b) .b) .b) (.a (.c<|.l (.b 0) 1) .b) .b)<|.a (.b (.h 54<|.a (.b 1) .b) (.a (.c<|.l .B 1) .b) .b)<|.a (.c<|.l (.h 45<|.a (.b 0)<|.a (.b 1)<|.a (.b 2) .b) 1) .b
noncomputable def FY:bx:=iN 3 4 885360415678626487842001491 11 [3]<|.a (.b (.f .Eq (.l (.b 0) 0)<|.b 1) (.a (.f<|.h 16<|.a (.b 0) .b) .b) .b)<|.a (.a 3 .o)<|.a (.b (.f .IsNot (.l (.b 0) 2) .o) (.a (.a 3<|.k .dict<|.a (.l (.b 0) 2) .b) .b) .b)<|.a (.f<|.A 0<|.a (.b 1)<|.a (.k .list<|.a (.h 58<|.a (.b 0)<|.a (.b 1)<|.a (.b 2) .b) .b)<|.a (.b 3) .b) .b
noncomputable def zh:bx:=iN 2 2 794204939069496500 2 []<|.a (.b (.h 15<|.a (.b 0) .b) (.a (.c<|.b 0) .b) .b)<|.a (.b (.h 54<|.a (.l (.b 1) 0) .b) (.a (.c<|.A 0<|.a (.g dL)<|.a (.r<|.a (.b 0) .b) .b) .b) .b)<|.a (.b (.f .In (.l (.b 0) 0)<|.t<|.a (.g [115,121,109,98,111,108])<|.a (.g k6) .b) (.a (.c<|.A 0<|.a (.g dL)<|.a (.r<|.a (.b 0) .b) .b) .b) .b)<|.a (.g .B) .b
noncomputable def qE:bx:=iN 2 2 24584958629 2 []<|.a (.c<|.h 35<|.a (.r<|.a (.h 55<|.a (.l (.b 0) 0) .b)<|.a (.h 55<|.a (.l (.b 1) 0) .b) .b) .b) .b
noncomputable def lE:bx:=iN 3 7 1070567125344924944750497214371400743141103290863789 1 []<|.a (.a 3<|.k .cn<|.a (.b 2) .b)<|.a (.a 4<|.h 54<|.a (.l (.b 0) 0) .b)<|.a (.e 5 (.b<|.a (.k .cn<|.a (.b 1) .b) .b) qh) .b
noncomputable def rF:bx:=iN 2 3 633518657591365342440326245 2 []<|.a (.b (.f .Gt (.k .cn<|.a (.l (.b 1) 1) .b)<|.d 1) (.a (.e 2 (.a<|.b 0) gY) .b) .b) .b
noncomputable def sW:bx:=iN 1 3 633518657570475496612168805 0 []<|.a (.a 1<|.d 0)<|.a (.e 2 (.a<|.b 0) qC)<|.a (.c<|.b 1) .b
noncomputable def qF:ig:=.a (.a 5<|.h 20<|.a (.b 0) .b)<|.a (.a 3<|.h 60<|.a (.b 3)<|.a (.b 0) .b)<|.a (.d<|.h 63<|.a (.b 1)<|.a (.b 3) .b)<|.a (.a 6<|.h 61<|.a (.b 0)<|.a (.b 3) .b) Ww
noncomputable def qG:bx:=iN 5 10 1389675580444764040084306258389379643203124415701608419160442908788131760853680117204 12 [7] qF
noncomputable def fA:bx:=iN 4 7 35911644731393267123592065901835690245336085887669176358356 13 []<|.a (.a 4<|.h 18<|.a (.b 0) .b)<|.a (.a 5<|.h 56<|.a (.b 4)<|.a (.h 57<|.a (.b 0)<|.a (.b 4)<|.a (.b 1) .b) .b)<|.a (.b (.q .And<|.a (.f .Gt (.k .cn<|.a (.b 5) .b)<|.d 0)<|.a (.f .Eq (.h 14<|.a (.b 2) .b)<|.d 0) .b) (.a (.g<|.g oX) .b) .b)<|.a (.b (.f .Eq (.l (.b 2) 0)<|.g dQ) (.a (.c<|.b 0) .b) .b)<|.a (.a 6<|.h 14<|.a (.h 60<|.a (.b 2)<|.a (.b 0) .b) .b)<|.a (.b (.q .And<|.a (.f .Gt (.k .cn<|.a (.b 5) .b)<|.d 0)<|.a (.f .NotEq (.i .Mod (.k .cn<|.a (.b 5) .b)<|.b 6)<|.d 0) .b) (.a (.g<|.g oW) .b) .b)<|.a (.c<|.h 65<|.a (.b 0)<|.a (.b 5)<|.a .o<|.a (.b 2)<|.a (.b 3) .b) .b
noncomputable def dV:bx:=iN 4 6 33445325429917561936743618829022804503642102598835 14 []<|.a (.b (.f .Eq (.l (.b 0) 0)<|.g k6) (.a (.c .B) .b) .b)<|.a (.b (.q .And<|.a (.f .NotEq (.l (.b 0) 0)<|.g dQ)<|.a (.E<|.h 15<|.a (.b 0) .b) .b) (.a .o .b) .b)<|.a (.b (.f .Eq (.k .cn<|.a (.b 1) .b)<|.d 0) (.a (.c .B) .b) .b)<|.a (.b (.f .Eq (.k .cn<|.a (.b 1) .b)<|.d 1) (.a (.a 4<|.h 18<|.a (.b 0) .b)<|.a (.a 5 .B)<|.a (.b (.q .And<|.a (.f .IsNot (.b 5) .o)<|.a (.f .NotEq (.l (.b 2) 0)<|.g dQ) .b) (.a (.c<|.h 65<|.a (.b 0)<|.a (.b 5)<|.a .o<|.a (.b 2)<|.a (.b 3) .b) .b) .b)<|.a (.c .B) .b) .b)<|.a (.a 4<|.h 18<|.a (.b 0) .b)<|.a (.b (.q .Or<|.a (.f .Is (.b 4) .o)<|.a (.f .NotEq (.k .cn<|.a (.b 4) .b)<|.k .cn<|.a (.b 1) .b) .b) (.a (.g<|.g FM) .b) .b)<|.a (.c<|.h 66<|.a (.b 0)<|.a (.b 1)<|.a (.b 2)<|.a (.b 3) .b) .b
noncomputable def rG:ig:=.a (.a 2<|.r<|.a (.i .Add (.d 1)<|.i .Mod (.h 0<|.a (.b 0) .b)<|.d 3)<|.a (.i .Add (.d 1)<|.i .Mod (.h 0<|.a (.b 0) .b)<|.d 4) .b)<|.a (.b (.f .Eq (.i .Mod (.h 0<|.a (.b 0) .b)<|.d 3)<|.d 2) (.a (.d<|.p .append (.b 2)<|.a (.i .Add (.d 1)<|.i .Mod (.h 0<|.a (.b 0) .b)<|.d 3) .b) .b) .b) Ik
noncomputable def wQ:bx:=iN 2 14 34259778203329285047212111990374271623116498328252110561634628920585234456408988 2 [2,8,5] rG
noncomputable def v7:ig:=.a (.a 1<|.r .b)<|.a (.e 2 (.a<|.tG (.b 0)<|.d 40) Il) QK
noncomputable def v8:bx:=iN 1 5 812918354362349985447677640670493683760 0 [1] v7
noncomputable def Wy:ig:=.a (.a 1<|.h 69<|.a (.b 0) .b) za
noncomputable def iA:bx:=iN 1 26 83156228317378254342834464889542140542684935071821520067648970464057165115982966045474620193740397073052732994844637378861018661598153800670383909426648400598519111263053420802439581954972 17 [21] Wy
noncomputable def Ky:aa (av×bx):=[(69,v8),(68,wQ),(67,dV),(66,fA),(65,qG),(64,sW),(63,rF),(62,lE),(61,qE),(60,zh),(59,FY),(58,oz),(57,kl),(56,rE),(55,AK),(54,rD),(53,BQ),(52,zg),(51,wP),(50,sV),(49,rC),(48,rB),(47,v6),(46,nh),(45,BP),(44,Dx),(43,BO),(42,v5),(41,BN),(40,Du),(39,FX),(38,Iq),(37,FW),(36,Ip),(35,AJ),(34,Dt),(33,sU),(32,ng),(31,FV),(30,sT),(29,zf),(28,qi),(27,rA),(26,sS),(25,FU),(24,rz),(23,uN),(22,ze),(21,qD),(20,zd),(19,sR),(18,FT),(17,Io),(16,Wx),(2000,Yi),(15,FS),(14,FR),(13,wO),(12,zc),(11,m9),(9,uM),(8,uL),(7,Ds),(6,FQ),(5,pG),(4,m8),(3,BM),(2,BL),(1,sQ),(0,zb)]
noncomputable abbrev wR:aa (av×bx):=(70,iA)::Ky
noncomputable abbrev nmC:Nat:=214173029730728329501740203844581138414629450983424227879677889476447312156515756370119599364542559463961015596545996584670065251878045859933039161552090852981310068067060285051922114262133791253545323822837474562966657941404914763108954223665102548843069647383773568618892842706862784781766146316316557190301709003456423920698930012954688731576970393433578971195303534892551297408832775041334159868476515001856621762096592634719235475980134048677912800037262670083995488586961072547532536113220903871553759693290419110412348684776519565293777176038892355423860509378572488409955125930076065974986557057888831818935340073369466463221573163793122431850077203376022472448061601537036010756256904084795644847604423722230345976961575887830812734913939307234812799315547778578118451293937680250694584778221650692105307113656584252637439206371701666866934282526015899251272474682174618107302551711625752800243218935517740837621051362976851965694578879366401223461725738254456268702280285355212216119549431848247346170784536291940004041457641518076731985108097116096401404866495912765610089538485486185589829774182543581151537982174334622149521463
noncomputable def t4:av->Str:=λk=>if k=0 then br [86,101,99,116,111,114]else if k=1 then br [78,117,108,108]else if k=2 then br [77,105,115,115,105,110,103]else br [82,101,102,117,115,97,108]
noncomputable def sg:Sg:=⟨λn=>br<|(QC nmC).getD n [],t4,71,λn=>((wR.lookup n).map λI=>I.fg+1).getD 1,10⟩
noncomputable abbrev Fn:=aa DV->Rw->bc DV
noncomputable abbrev jW:=aa<|av×Fn
noncomputable def aB:jW->av->Fn
 |[],_=>λU U=>.d
 |p::t,f=>if f=p.1 then p.2 else aB t f
noncomputable def rH(n:av):ag bx:=wR.lookup n
inductive QM(c:Cx)(f:av)(I:bx)(g:aM):Prop
 |mk {fd body} (A:L9 c (c.ue f) fd I body) (fit:ou sg I.body ⟨I.fg,fd.scope.names,I.Λ,g⟩ body=true) (code:g=true->fd.code=.ref c.code/\(fd.qualname++".<locals>.")++"<lambda>"=c.nP)
structure PC(c:Cx):Prop where
 ok:c.Ok
 x:vU c
 xi:yM c
 lm:Fb c
 kp:HY c sg.kf
 iG:c.iG=sg.iG
 fY:c.fY=sg.fY
 Cw:c.Cw=sg.Cw
 F: ∀f I,f≠70->rH f=some I->QM c f I false
 Zg:QM c 70 iA true
 rq: ∀k,k<=2->lU c 1 k
structure Ep(c:Cx)(f:av)(g:Fn):Prop where
 v:rf f=false->mZ c (sg.lv f) (.ref<|c.ue f) VD g
 w:tJ f=true->mZ c (sg.lv f) (.ref<|c.ue f) VW g
 m:rf f=true->JV c (sg.lv f) (.ref<|c.ue f) g
section
variable{c:Cx}{f k:av}{g:Fn}{I:bx}{l:jW}
theorem Ep.abv:Ep c f λU U=>.d:=⟨λU F H r s vs xs Q E U U U U q=>q.elim,λU F H r s vs xs Q E U U U U q=>q.elim,λU F H r s v d L vs xs Q E U U U U U U q=>q.elim⟩
theorem zi(h: ∀p∈l,Ep c p.1 p.2)(f:av):Ep c f (aB l f):=by
 induction l with
 |nil=>exact .abv
 |cons p t ih=>
  show Ep c f (if f=p.1 then p.2 else aB t f)
  by_cases z:f=p.1
  ·refine aK (aJ z)<|aK z ?_
   exact h p<|.head _
  ·refine aK (aN z) ?_
   exact ih λq m=>h q<|.tail _ m
theorem PC.QN(p:PC c)(h: ∀q∈l,Ep c q.1 q.2):World c sg (aB l):=
 ⟨p.ok,p.x,p.xi,p.lm,p.kp,p.iG,p.fY,p.Cw,λf=>(zi h f).v,λf=>(zi h f).w,λf=>(zi h f).m,p.rq⟩
theorem Ir(p:PC c)(h: ∀q∈l,Ep c q.1 q.2)(A:L9 c (c.ue f) fd I body)(fit:ou sg I.body ⟨I.fg,fd.scope.names,I.Λ,gg⟩ body=true)(code:gg=true->fd.code=.ref c.code/\(fd.qualname++".<locals>.")++"<lambda>"=c.nP):vS c I fd body λδ r=>bM (aB l) I.mu I.body δ r:=
 Uz (p.QN h) code A.D.kind fit
theorem afa(p:PC c)(h: ∀q∈l,Ep c q.1 q.2)(hI:rH f=some I)(hf:(sg.lv f=I.fg+1/\tJ f=false)/\(rf f=false/\f≠70)):Ep c f (eR (aB l) I):=by
 obtain⟨A,fit,code⟩:=p.F f I hf.2.2 hI
 exact⟨λU=>hf.1.1▸XS p.ok A (Ir p h A fit code),λz=>ff<|hf.1.2.symm.trans z,λz=>ff<|hf.2.1.symm.trans z⟩
theorem Wz(p:PC c)(h: ∀q∈l,Ep c q.1 q.2)(hI:rH f=some I)(hf:sg.lv f=I.fg+1/\f≠70):mZ c (sg.lv f) (.ref<|c.ue f) VW (Cu (aB l) I):=by
 obtain⟨A,fit,code⟩:=p.F f I hf.2 hI
 exact hf.1▸Ue p.ok A (Ir p h A fit code)
theorem abw(p:PC c)(h: ∀q∈l,Ep c q.1 q.2)(hI:rH f=some I)(hf:(sg.lv f=I.fg+1/\f≠70)/\rf f=false):Ep c f (Cu (aB l) I):=by
 have k:=Wz p h hI hf.1
 refine⟨λU F H r s vs xs Q E e hl C cs q=>lQ (k F H r s vs xs Q E e hl C cs q) λres s' p=>?_,λU=>k,λz=>ff<|hf.2.symm.trans z⟩
 cases res with
 |error e=>exact p
 |ok fl=>
  obtain⟨v,ev,w,T,q⟩:=p
  exact⟨v,ev,VW.nB C.iu w,T,q⟩
theorem abx(p:PC c)(h: ∀q∈l,Ep c q.1 q.2)(hI:rH f=some I)(hf:((sg.lv f=I.fg+1/\tJ f=false)/\(rf f=true/\f≠70))/\I.mu.contains 0=false):Ep c f (Ls (aB l) I):=by
 obtain⟨A,fit,code⟩:=p.F f I hf.1.2.2 hI
 exact⟨λz=>ff<|z.symm.trans hf.1.2.1,λz=>ff<|hf.1.1.2.symm.trans z,λU=>hf.1.1.1▸Ug p.ok A (Ir p h A fit code) hf.2⟩
theorem UD{L:aa (av×bx)}(h:(L.map<|λx=>x.1).Nodup)(m:(f,I)∈L):L.lookup f=some I:=by
 induction L with
 |nil=>exact nomatch m
 |cons p L ih=>
  obtain⟨h1,h2⟩:=bB.mp h
  cases m with
  |head=>exact List.lookup_cons_self
  |tail _ m=>
   have z:f≠p.1:=λz=>h1 (show p.1∈L.map (λx=>x.1) from z▸(g7 m:f∈L.map (λx=>x.1)))
   rw[cB,beq_false_of_ne z]
   exact ih h2 m
theorem QO(h:rH f=some I):sg.lv f=I.fg+1:=aE (λo=>(qv (λI:bx=>I.fg+1) o).getD 1) h
noncomputable def Yj(n:av)(ct:av->Fn)(I:bx):Fn:=if rf n=true then Ls ct I else if tJ n=true then Cu ct I else eR ct I
noncomputable def Yk(L:aa (av×bx)):jW:=L.foldr (λp t=>(p.1,Yj p.1 (aB t) p.2)::t) []
noncomputable def okN(q:av×bx):Bool:=q.1 !=70&&(!rf q.1||(!tJ q.1&& !q.2.mu.contains 0))
theorem Yl(p:PC c)(h: ∀q∈L,rH q.1=some q.2/\okN q=true): ∀q∈Yk L,Ep c q.1 q.2:=by
 induction L with
 |nil=>exact λU h=>nomatch h
 |cons q L ih=>
  have T:=ih λq m=>h q<|.tail _ m
  refine bX.mpr ⟨?_,T⟩
  obtain⟨hi,hk⟩:=h q<|.head _
  obtain⟨h1,h2⟩:=aT hk
  have n1:q.1≠70:=ne_of_beq_false<|(eV _).mp h1
  show Ep c q.1 (Yj q.1 (aB<|Yk L) q.2)
  unfold Yj
  cases hm:rf q.1 with
  |true=>
   obtain⟨h3,h4⟩:=aT<|(aZ.mp h2).resolve_left (by rw[hm];decide)
   exact abx p T hi ⟨⟨⟨QO hi,(eV _).mp h3⟩,hm,n1⟩,(eV _).mp h4⟩
  |false=>
   cases hw:tJ q.1 with
   |true=>exact abw p T hi ⟨⟨QO hi,n1⟩,hm⟩
   |false=>exact afa p T hi ⟨⟨QO hi,hw⟩,hm,n1⟩
theorem QP: ∀q∈Ky,rH q.1=some q.2/\okN q=true:=λq m=>⟨UD (ah (by kernel_rfl))<|.tail _ m,aF.mp (by kernel_rfl:Ky.all okN=true) q m⟩
end
noncomputable abbrev tT(n:av):jW:=Yk<|Ky.drop n
noncomputable def Iu:jW:=tT 70
noncomputable def zj:Fn:=eR (aB Iu) zb
noncomputable def oY:jW:=tT 69
noncomputable def sX:Fn:=eR (aB oY) sQ
noncomputable def v9:jW:=tT 68
noncomputable def wa:Fn:=eR (aB v9) BL
noncomputable def jQ:jW:=tT 67
noncomputable def sn:Fn:=eR (aB jQ) BM
noncomputable def k7:jW:=tT 66
noncomputable def zk:Fn:=eR (aB k7) m8
noncomputable def i8:jW:=tT 65
noncomputable def pH:Fn:=eR (aB i8) pG
noncomputable def QQ:jW:=tT 64
noncomputable def rI:Fn:=eR (aB QQ) FQ
noncomputable def mw:jW:=tT 62
noncomputable def uO:Fn:=eR (aB mw) uL
noncomputable def i9:jW:=tT 61
noncomputable def fu:Fn:=eR (aB i9) uM
noncomputable def eO:jW:=tT 60
noncomputable def Iv:Fn:=eR (aB eO) m9
noncomputable def fj:jW:=tT 59
noncomputable def Iw:Fn:=eR (aB fj) zc
noncomputable def oA:jW:=tT 58
noncomputable def FZ:Fn:=eR (aB oA) wO
noncomputable def QR:jW:=tT 57
noncomputable def F0:Fn:=eR (aB QR) FR
noncomputable def aby:jW:=tT 54
noncomputable def abz:Fn:=Cu (aB aby) Wx
noncomputable def QS:jW:=tT 52
noncomputable def QT:Fn:=eR (aB QS) FT
noncomputable def AL:jW:=tT 51
noncomputable def AM:Fn:=eR (aB AL) sR
noncomputable def Ix:jW:=tT 50
noncomputable def jF:Fn:=eR (aB Ix) zd
noncomputable def xj:jW:=tT 49
noncomputable def xk:Fn:=eR (aB xj) qD
noncomputable def nj:jW:=tT 48
noncomputable def zl:Fn:=eR (aB nj) ze
noncomputable def Dy:jW:=tT 47
noncomputable def Dz:Fn:=eR (aB Dy) uN
noncomputable def zm:jW:=tT 46
noncomputable def zn:Fn:=eR (aB zm) rz
noncomputable def QU:jW:=tT 45
noncomputable def QV:Fn:=eR (aB QU) FU
noncomputable def AN:jW:=tT 44
noncomputable def AO:Fn:=eR (aB AN) sS
noncomputable def iQ:jW:=tT 43
noncomputable def zo:Fn:=eR (aB iQ) rA
noncomputable def ko:jW:=tT 42
noncomputable def uP:Fn:=eR (aB ko) qi
noncomputable def zq:jW:=tT 41
noncomputable def Iy:Fn:=eR (aB zq) zf
noncomputable def ip:jW:=tT 40
noncomputable def sY:Fn:=eR (aB ip) sT
noncomputable def QW:jW:=tT 39
noncomputable def QX:Fn:=eR (aB QW) FV
noncomputable def rJ:jW:=tT 38
noncomputable def zr:Fn:=eR (aB rJ) ng
noncomputable def AP:jW:=tT 37
noncomputable def AQ:Fn:=eR (aB AP) sU
noncomputable def Mt:jW:=tT 29
noncomputable def BR:Fn:=eR (aB Mt) BN
noncomputable def Mu:jW:=tT 27
noncomputable def ja:Fn:=eR (aB Mu) BO
noncomputable def wb:jW:=tT 25
noncomputable def Mv:Fn:=eR (aB wb) BP
noncomputable def nk:jW:=tT 24
noncomputable def nq:Fn:=eR (aB nk) nh
noncomputable def rK:jW:=tT 22
noncomputable def nr:Fn:=eR (aB rK) rB
noncomputable def zt:jW:=tT 21
noncomputable def zu:Fn:=eR (aB zt) rC
noncomputable def oZ:jW:=tT 20
noncomputable def AR:Fn:=eR (aB oZ) sV
noncomputable def wS:jW:=tT 19
noncomputable def oB:Fn:=eR (aB wS) wP
noncomputable def wc:jW:=tT 18
noncomputable def DA:Fn:=eR (aB wc) zg
noncomputable def we:jW:=tT 17
noncomputable def wf:Fn:=eR (aB we) BQ
noncomputable def zv:jW:=tT 16
noncomputable def rL:Fn:=eR (aB zv) rD
noncomputable def iR:jW:=tT 14
noncomputable def zw:Fn:=eR (aB iR) rE
noncomputable def fW:jW:=tT 13
noncomputable def DD:Fn:=eR (aB fW) kl
noncomputable def gz:jW:=tT 12
noncomputable def oE:Fn:=eR (aB gz) oz
noncomputable def zy:jW:=tT 11
noncomputable def QY:Fn:=Cu (aB zy) FY
noncomputable def xl:jW:=tT 9
noncomputable def gu:Fn:=eR (aB xl) qE
noncomputable def oF:jW:=tT 8
noncomputable def F4:Fn:=Ls (aB oF) lE
noncomputable def gZ:jW:=tT 7
noncomputable def zz:Fn:=eR (aB gZ) rF
noncomputable def ln:jW:=tT 6
noncomputable def sZ:Fn:=eR (aB ln) sW
noncomputable def lX:jW:=tT 5
noncomputable def qH:Fn:=eR (aB lX) qG
noncomputable def cM:jW:=tT 4
noncomputable def iS:Fn:=eR (aB cM) fA
noncomputable def fw:jW:=tT 3
noncomputable def gA:Fn:=eR (aB fw) dV
noncomputable def wT:jW:=tT 2
noncomputable def F5:Fn:=eR (aB wT) wQ
noncomputable def F6:jW:=tT 0
noncomputable def pI:Fn:=Cu (aB []) v8
section
variable{c:Cx}
theorem QZ: ∀q∈([]:jW),Ep c q.1 q.2:=λU h=>nomatch h
theorem Mw(p:PC c):mZ c (sg.lv 69) (.ref<|c.ue 69) VW pI:=Wz p QZ rfl ⟨rfl,by decide⟩
theorem Q0(p:PC c): ∀q∈F6,Ep c q.1 q.2:=Yl p QP
end
noncomputable abbrev aS(k:DV)(xs:aa DV)(a:DV):DV:=jD k (.c xs) a
section
variable{ct:av->Fn}{mu:aa av}{i:av}{e t:Ex}{a b ss:ig}{s:Sx}{es:n8}{δ uf iZ:Sl}{r r1 r2:Rw}{d:DV}{m:aa av}{xs ys:aa DV}{I:bx}{args:aa DV}
theorem gB{α:Type}{p:α->aM}{x:Dl->Rw->bc α}{d:α}(h:x (bU δ) r=.c d r1):d9 p x δ r=.c (d,δ) r1:=by
 unfold d9
 exact aK h rfl
theorem zA{α:Type}{p:α->aM}{x:Dl->Rw->bc α}(h:x (bU δ) r=.e m r1):d9 p x δ r=.e m r1:=by
 unfold d9
 exact aK h rfl
theorem zB{α:Type}{p:α->aM}{x:Dl->Rw->bc α}{d:α}(h0:x (bU δ) r=.d)(h:x (b4 δ) r=.c d r1):d9 p x δ r=.c (d,if p d=true then δ else rd δ) r1:=by
 unfold d9
 refine aK h0<|aK h ?_
 rfl
theorem dE(h:ds ct mu s δ r=.a iZ r2):bM ct mu (.a s ss) δ r=bM ct mu ss iZ r2:=aE (λx=>SR.seq x λδ r=>bM ct mu ss δ r) h
theorem sq(h:ds ct mu s δ r=.b d r2):bM ct mu (.a s ss) δ r=.b d r2:=aE (λx=>SR.seq x λδ r=>bM ct mu ss δ r) h
theorem xN(h:ds ct mu s δ r=.g d r2):bM ct mu (.a s ss) δ r=.g d r2:=aE (λx=>SR.seq x λδ r=>bM ct mu ss δ r) h
theorem my(h:ds ct mu s δ r=.c m r2):bM ct mu (.a s ss) δ r=.c m r2:=aE (λx=>SR.seq x λδ r=>bM ct mu ss δ r) h
theorem wg(hm:(mu.contains i&&ur e)=false):ds ct mu (.a i e) δ r=(d9 bA (dv ct e) δ r).fZ λp r=>.a (di p.2 i p.1) r:=aN λz=>ff<|hm.symm.trans z
theorem ax(hm:(mu.contains i&&ur e)=false)(h:dv ct e (bU δ) r=.c d r1):bM ct mu (.a (.a i e) ss) δ r=bM ct mu ss (di δ i d) r1:=
 dE ((wg hm).trans (by rw[gB h];rfl))
theorem wh(hm:(mu.contains i&&ur e)=false)(h0:dv ct e (bU δ) r=.d)(h:dv ct e (b4 δ) r=.c d r1):bM ct mu (.a (.a i e) ss) δ r=bM ct mu ss (di (if bA d=true then δ else rd δ) i d) r1:=
 dE ((wg hm).trans (by rw[zB h0 h];rfl))
theorem DE(hm:(mu.contains i&&ur e)=false)(h:dv ct e (bU δ) r=.e m r1):bM ct mu (.a (.a i e) ss) δ r=.c m r1:=
 my ((wg hm).trans (by rw[zA h];rfl))
theorem Q1(hm:(mu.contains i&&ur e)=true):ds ct mu (.a i e) δ r=match dv ct e (bU δ) r with
  |.c d r=>.a (gI δ i d) r
  |.e m r=>.c m r
  |.d=>(dv ct e (b4 δ) r).fZ λd r=>.a (gI (rd δ) i d) r:=aJ hm
theorem iT(hm:(mu.contains i&&ur e)=true)(h:dv ct e (bU δ) r=.c d r1):bM ct mu (.a (.a i e) ss) δ r=bM ct mu ss (gI δ i d) r1:=
 dE ((Q1 hm).trans (by rw[h]))
theorem Ym(hm:(mu.contains i&&ur e)=true)(h0:dv ct e (bU δ) r=.d)(h:dv ct e (b4 δ) r=.c d r1):bM ct mu (.a (.a i e) ss) δ r=bM ct mu ss (gI (rd δ) i d) r1:=
 dE ((Q1 hm).trans (by rw[h0,h];rfl))
theorem zC(h:gi ct t (b4 δ) r=.c c r1):ds ct mu (.b t a b) δ r=if c=true then bM ct mu a δ r1 else bM ct mu b δ r1:=aE (λx=>bc.fZ x λc r=>if c=true then bM ct mu a δ r else bM ct mu b δ r) h
theorem dh(h:gi ct t (b4 δ) r=.c true r1)(ha:bM ct mu a δ r1=.a iZ r2):bM ct mu (.a (.b t a b) ss) δ r=bM ct mu ss iZ r2:=dE<|(zC h).trans ha
theorem fB(h:gi ct t (b4 δ) r=.c false r1)(ha:bM ct mu b δ r1=.a iZ r2):bM ct mu (.a (.b t a b) ss) δ r=bM ct mu ss iZ r2:=dE<|(zC h).trans ha
theorem aH(h:gi ct t (b4 δ) r=.c false r1):bM ct mu (.a (.b t a .b) ss) δ r=bM ct mu ss δ r1:=fB h rfl
theorem cQ(h:gi ct t (b4 δ) r=.c true r1)(ha:bM ct mu a δ r1=.b d r2):bM ct mu (.a (.b t a b) ss) δ r=.b d r2:=sq<|(zC h).trans ha
theorem lq(h:gi ct t (b4 δ) r=.c true r1)(ha:bM ct mu a δ r1=.c m r2):bM ct mu (.a (.b t a b) ss) δ r=.c m r2:=my<|(zC h).trans ha
theorem adr(h:gi ct t (b4 δ) r=.c false r1)(ha:bM ct mu b δ r1=.b d r2):bM ct mu (.a (.b t a b) ss) δ r=.b d r2:=sq<|(zC h).trans ha
theorem UE(h:gi ct t (b4 δ) r=.c false r1)(ha:bM ct mu b δ r1=.c m r2):bM ct mu (.a (.b t a b) ss) δ r=.c m r2:=my<|(zC h).trans ha
theorem Q2(h:dv ct e (b4 δ) r=x):ds ct mu (.c e) δ r=x.fZ λd r=>.b d r:=aE (λx=>bc.fZ x λd r=>SR.b d r) h
theorem bR(h:dv ct e (b4 δ) r=.c d r1):bM ct mu (.a (.c e) ss) δ r=.b d r1:=sq<|Q2 h
theorem Mx(h:dv ct e (b4 δ) r=.e m r1):bM ct mu (.a (.c e) ss) δ r=.c m r1:=my<|Q2 h
theorem oG(h:dv ct e (b4 δ) r=.c (.d m) r1):bM ct mu (.a (.g e) ss) δ r=.c m r1:=my<|aE (λx=>bc.fZ x λ(d:DV) r=>dO d.fH λm=>SR.c m r) h
theorem lY{x:DV}(ho:δ[i]?=some (some (true,x))):dJ δ i=some x:=by
 unfold dJ
 refine aK ho ?_
 rfl
theorem dk(ho:δ[i]?=some (some (true,.c xs)))(h:dv ct e (bU δ) r=.c d r1)(hl:xs.length<9999):bM ct mu (.a (.d<|.p .append (.b i)<|.a e .b) ss) δ r=bM ct mu ss (δ.set i<|some (true,.c<|xs++[d])) r1:=by
 refine dE ?_
 show dO ((dJ δ i).bind DV.bW) (λU=>(d9 bA (dv ct e) δ r).fZ λp r=>dO ((dJ p.2 i).bind λx=>Lr x p.1) λy=>.a (gI p.2 i y) r)=_
 refine aK (lY ho)<|aK (gB h) ?_
 show dO ((dJ δ i).bind λx=>Lr x d) _=_
 refine aK (lY ho) ?_
 show dO (gL (decide<|xs.length<9999)<|DV.c<|xs++[d]) _=_
 refine aK (ab hl) ?_
 rfl
noncomputable abbrev kN(ct:av->Fn)(mu:aa av)(i:av)(b:ig):DV->Sl->Rw->SR:=λx δ r=>bM ct mu b (di δ i x) r
theorem DF(h:d9 bA (dv ct e) δ r=.c (d,uf) r1)(hs:vB d=some xs):ds ct mu (.e i (.a e) b) δ r=dH (kN ct mu i b) xs uf r1:=by
 show(d9 bA (dv ct e) δ r).fZ (λp r=>dO (vB p.1) λxs=>dH (kN ct mu i b) xs p.2 r)=_
 refine aK h ?_
 show dO (vB d) _=_
 refine aK hs ?_
 rfl
theorem nt(h:dv ct e (bU δ) r=.c d r1)(hs:vB d=some xs)(hl:dH (kN ct mu i b) xs δ r1=.a iZ r2):bM ct mu (.a (.e i (.a e) b) ss) δ r=bM ct mu ss iZ r2:=dE<|(DF (gB h) hs).trans hl
theorem Yn(h0:dv ct e (bU δ) r=.d)(h:dv ct e (b4 δ) r=.c d r1)(hd:bA d=false)(hs:vB d=some xs)(hl:dH (kN ct mu i b) xs (rd δ) r1=.a iZ r2):bM ct mu (.a (.e i (.a e) b) ss) δ r=bM ct mu ss iZ r2:=
 dE ((DF ((zB h0 h).trans (by rw[hd];rfl)) hs).trans hl)
theorem My(h:dv ct e (bU δ) r=.c d r1)(hs:vB d=some xs)(hl:dH (kN ct mu i b) xs δ r1=.c m r2):bM ct mu (.a (.e i (.a e) b) ss) δ r=.c m r2:=my<|(DF (gB h) hs).trans hl
theorem Mz{dd}(h:dv ct e (bU δ) r=.c d r1)(hs:vB d=some xs)(hl:dH (kN ct mu i b) xs δ r1=.b dd r2):bM ct mu (.a (.e i (.a e) b) ss) δ r=.b dd r2:=sq<|(DF (gB h) hs).trans hl
theorem xO(h:d9 (λxs=>xs.all bA) (mE ct es) δ r=.c (ys,uf) r1)(hs:fQ ys=some xs):ds ct mu (.e i (.b es) b) δ r=dH (kN ct mu i b) xs uf r1:=by
 show(d9 (λxs=>xs.all bA) (mE ct es) δ r).fZ (λp r=>dO (fQ p.1) λxs=>dH (kN ct mu i b) xs p.2 r)=_
 refine aK h ?_
 show dO (fQ ys) _=_
 refine aK hs ?_
 rfl
theorem rM(h:mE ct es (bU δ) r=.c ys r1)(hs:fQ ys=some xs)(hl:dH (kN ct mu i b) xs δ r1=.a iZ r2):bM ct mu (.a (.e i (.b es) b) ss) δ r=bM ct mu ss iZ r2:=dE<|(xO (gB h) hs).trans hl
theorem ads(h0:mE ct es (bU δ) r=.d)(h:mE ct es (b4 δ) r=.c ys r1)(hd:ys.all bA=true)(hs:fQ ys=some xs)(hl:dH (kN ct mu i b) xs δ r1=.a iZ r2):bM ct mu (.a (.e i (.b es) b) ss) δ r=bM ct mu ss iZ r2:=
 dE ((xO ((zB h0 h).trans (by rw[aJ hd])) hs).trans hl)
theorem zD(h:mE ct es (bU δ) r=.c ys r1)(hs:fQ ys=some xs)(hl:dH (kN ct mu i b) xs δ r1=.c m r2):bM ct mu (.a (.e i (.b es) b) ss) δ r=.c m r2:=my<|(xO (gB h) hs).trans hl
theorem Yo(h:mE ct es (bU δ) r=.c ys r1)(hs:fQ ys=some xs)(hl:dH (kN ct mu i b) xs δ r1=.b d r2):bM ct mu (.a (.e i (.b es) b) ss) δ r=.b d r2:=sq<|(xO (gB h) hs).trans hl
theorem uQ(hl:jE (λδ r=>gi ct t (b4 δ) r) (λδ r=>bM ct mu b δ r) 99 δ r=.a iZ r2):bM ct mu (.a (.l t b) ss) δ r=bM ct mu ss iZ r2:=dE hl
theorem F7{p q x y}{ie}(h:dv ct e (bU δ) r=.c p r1)(h2:dv ct ie (bU δ) r1=.c q r2)(ho:δ[i]?=some (some (true,x)))(hp:oR x q p=some y):bM ct mu (.a (.h (.b i) ie e) ss) δ r=bM ct mu ss (δ.set i<|some (true,y)) r2:=by
 refine dE ?_
 show(d9 bA (dv ct e) δ r).fZ (λp r=>dO (dJ p.2 i) λU=>(d9 bA (dv ct ie) p.2 r).fZ λq r=>dO ((dJ q.2 i).bind λx=>oR x q.1 p.1) λy=>.a (gI q.2 i y) r)=_
 refine aK (gB h) ?_
 show dO (dJ δ i) (λU=>(d9 bA (dv ct ie) δ r1).fZ λq r=>dO ((dJ q.2 i).bind λx=>oR x q.1 p) λy=>.a (gI q.2 i y) r)=_
 refine aK (lY ho)<|aK (gB h2) ?_
 show dO ((dJ δ i).bind λx=>oR x q p) _=_
 refine aK (lY ho) ?_
 show dO (oR x q p) _=_
 refine aK hp ?_
 rfl
theorem zE{is}{vs}(h:dv ct e (bU δ) r=.c (.g vs) r1)(hl:vs.length=is.length):bM ct mu (.a (.i is e) ss) δ r=bM ct mu ss (Bd δ is vs) r1:=by
 refine dE ?_
 show(d9 bA (dv ct e) δ r).fZ (λp r=>j5 is (λδ r=>.a δ r) p.1 p.2 r)=_
 refine aK (gB h) ?_
 show dO (gL (decide<|vs.length=is.length) vs) _=_
 refine aK (ab hl) ?_
 rfl
theorem Kz(hl:args.length=I.ps.length)(h:bM ct I.mu I.body (eH I args) r=x):eR ct I args r=Od x:=(aJ hl).trans<|aE Od h
theorem cg(hl:args.length=I.ps.length)(h:bM ct I.mu I.body (eH I args) r=.b d r1):eR ct I args r=.c d r1:=Kz hl h
theorem rN(hl:args.length=I.ps.length)(h:bM ct I.mu I.body (eH I args) r=.c m r1):eR ct I args r=.e m r1:=Kz hl h
theorem Q3(hl:args.length=I.ps.length)(h:bM ct I.mu I.body (eH I args) r=.a iZ r1):eR ct I args r=.c .f r1:=Kz hl h
theorem Q4(hl:args.length=I.ps.length)(h:bM ct I.mu I.body (eH I args) r=.g d r1):Cu ct I args r=.c d r1:=(aJ hl).trans<|aE ZI h
end
theorem bq{aW}{x}{xs}{δ uf}{r r1}{o}(h:aW x δ r=.a uf r1)(k:dH aW xs uf r1=o):dH aW (x::xs) δ r=o:=
 (aE (λy=>SR.seq y λδ r=>dH aW xs δ r) h).trans k
theorem zF{aW}{x}{xs}{δ}{r r1}{m}(h:aW x δ r=.c m r1):dH aW (x::xs) δ r=.c m r1:=aE (λy=>SR.seq y λδ r=>dH aW xs δ r) h
theorem F8{aW}{x}{xs}{δ}{r r1}{d}(h:aW x δ r=.b d r1):dH aW (x::xs) δ r=.b d r1:=aE (λy=>SR.seq y λδ r=>dH aW xs δ r) h
theorem bC{α β:Type}{x:bc α}{f:α->Rw->bc β}{a:α}{r:Rw}(h:x=.c a r):x.bind f=f a r:=aE (λx=>bc.bind x f) h
theorem k8{aW}{x}{xs acc a}{r r1}{o}(h:aW x r=.c a r1)(k:gn aW xs (acc++a) r1=o):gn aW (x::xs) acc r=o:=
 (aE (λy=>bc.bind (bc.uo y) λa r'=>gn aW xs (acc++a) r') h).trans k
theorem sr{aW}{r}(g:DV->aa DV){xs}: ∀(acc:aa DV),(∀x∈xs,aW x r=.c (g x) r)->gn aW xs acc r=.c (acc++xs.flatMap g) r:=by
 induction xs with
 |nil=>exact λacc U=>by rw[Sy,bI];rfl
 |cons x xs ih=>
  intro acc h
  rw[fK,←eU]
  exact k8 (h x<|.head _)<|ih _ λy m=>h y<|.tail _ m
inductive abA(x:Rw->bc (aa DV))(acc:aa DV)(n:av)(P:DV->Prop)(r:Rw):Prop
 |mk (ds:aa DV) (r':Rw) (e:x r=.c (acc++ds) r') (hl:ds.length=n) (hp: ∀d∈ds,P d)
theorem Q5{aW}{P:DV->Prop}{xs}: ∀(acc:aa DV) (r:Rw),(∀x∈xs,∀r,∃d r',aW x r=.c [d] r'/\P d)->abA (gn aW xs acc) acc xs.length P r:=by
 induction xs with
 |nil=>exact λacc r U=>⟨[],r,by rw[bI];rfl,rfl,λU h=>nomatch h⟩
 |cons x xs ih=>
  intro acc r h
  refine jK (h x (.head _) r) λd r1 h9=>cK h9 λh1 p1=>?_
  obtain⟨ds,r2,h2,h3,h4⟩:=ih (acc++[d]) r1 λy m=>h y<|.tail _ m
  exact⟨d::ds,r2,k8 h1 (h2.trans (by rw[eU];rfl)),aE (λx=>x+1) h3,bX.mpr ⟨p1,h4⟩⟩
section
variable{ct:av->Fn}{δ:Dl}{r r1 r2 r3:Rw}{a b e o t:Ex}{es:n8}{x y z:DV}{vs:aa DV}{op:CmpOp}{c:aM}{X:bc aM}
theorem cT{op}(ha:dv ct a δ r=.c x r1)(hb:dv ct b δ r1=.c y r2)(hz:yc op x y=some z):dv ct (.i op a b) δ r=.c z r2:=
 (bC ha).trans ((bC hb).trans<|aE (bc.fG · r2) hz)
theorem ew(ha:dv ct a δ r=.c x r1)(hb:dv ct b δ r1=.c y r2)(hz:xg x y=some z):dv ct (.m a b) δ r=.c z r2:=
 (bC ha).trans ((bC hb).trans<|aE (bc.fG · r2) hz)
theorem ags(ha:dv ct a δ r=.c x r1)(hb:dv ct b δ r1=.c y r2)(hz:EF op x y r2=some c):dv ct (.f op a b) δ r=.c (.j c) r2:=
 (bC ha).trans ((bC hb).trans<|aE (λo=>bc.fG (qv DV.j o) r2) hz)
theorem dz(ha:dv ct a δ r=.c x r1)(hb:dv ct b δ r1=.c y r2)(hz:EF op x y r2=some c):gi ct (.f op a b) δ r=.c c r2:=
 (bC ha).trans ((bC hb).trans<|aE (bc.fG · r2) hz)
theorem aV(ha:dv ct a δ r=.c x r1)(hb:mE ct es δ r1=.c vs r2):mE ct (.a a es) δ r=.c (x::vs) r2:=(bC ha).trans<|bC hb
theorem bu{f}{X}(ha:mE ct es δ r=.c vs r1)(hf:ct f vs r1=X):dv ct (.h f es) δ r=X:=(bC ha).trans hf
theorem Q6{f}(ha:mE ct es δ r=.c vs r1)(hf:ct f vs r1=.c x r2)(ht:j3 x=some c):gi ct (.h f es) δ r=.c c r2:=(bC ha).trans<|(bC hf).trans<|aE (bc.fG · r2) ht
theorem wU{k}(ha:mE ct es δ r=.c vs r1)(hz:He k vs=some z):dv ct (.A k es) δ r=.c z r1:=(bC ha).trans<|aE (bc.fG · r1) hz
theorem pJ{k}(ha:mE ct es δ r=.c vs r1)(hz:SH k vs=some z):dv ct (.k k es) δ r=.c z r1:=(bC ha).trans<|aE (bc.fG · r1) hz
theorem zG{f}(ha:dv ct a δ r=.c x r1)(hz:sL x f=some z):dv ct (.l a f) δ r=.c z r1:=(bC ha).trans<|aE (bc.fG · r1) hz
theorem rO{β:Type}{c:aM}{v:β}(h:c=true):bc.fG (gL c v) r=.c v r:=by rw[h];rfl
theorem Q7(ha:mE ct es δ r=.c vs r1)(hl:vs.length<=999):dv ct (.r es) δ r=.c (.c vs) r1:=(bC ha).trans<|rO<|ab hl
theorem lr(ha:mE ct es δ r=.c vs r1)(hl:vs.length<=999):dv ct (.t es) δ r=.c (.g vs) r1:=(bC ha).trans<|rO<|ab hl
theorem jz{X}(ht:gi ct t δ r=.c true r1)(hb:dv ct a δ r1=X):dv ct (.w t a b) δ r=X:=(bC ht).trans hb
theorem jb{X}(ht:gi ct t δ r=.c false r1)(hb:dv ct b δ r1=X):dv ct (.w t a b) δ r=X:=(bC ht).trans hb
theorem abB{l}(h:l.length<=9999):dv ct (.g l) δ r=.c (.d l) r:=rO<|ab h
theorem Yp{m}{X}(ho:dv ct o δ r=.c x r1)(hm:N8 m x=true)(hs:mE ct es δ r1=.c vs r2)(h:EG m x vs r2=X):dv ct (.p m o es) δ r=X:=(bC ho).trans<|(aJ hm).trans<|(bC hs).trans h
theorem zH(h:gi ct a δ r=.c true r1):Lq ct .Or (.a a es) δ r=.c true r1:=bC h
theorem qj(h:gi ct a δ r=.c false r1)(k:Lq ct .Or es δ r1=X):Lq ct .Or (.a a es) δ r=X:=(bC h).trans k
theorem ia(h:gi ct a δ r=.c false r1):Lq ct .And (.a a es) δ r=.c false r1:=bC h
theorem gC(h:gi ct a δ r=.c true r1)(k:Lq ct .And es δ r1=X):Lq ct .And (.a a es) δ r=X:=(bC h).trans k
theorem DG(h:gi ct a δ r=.c true r1):gi ct (.q .Or<|.a a es) δ r=.c true r1:=zH h
theorem lZ(h:gi ct a δ r=.c false r1)(k:Lq ct .Or es δ r1=X):gi ct (.q .Or<|.a a es) δ r=X:=qj h k
theorem jc(h:gi ct a δ r=.c false r1):gi ct (.q .And<|.a a es) δ r=.c false r1:=ia h
theorem dW(h:gi ct a δ r=.c true r1)(k:Lq ct .And es δ r1=X):gi ct (.q .And<|.a a es) δ r=X:=gC h k
theorem ql{β:Type}{c:aM}{v:β}(h:c=true):gL c v=some v:=aJ h
theorem rP{a b:aM}(h:a=true)(h2:b=true):(a&&b)=true:=by rw[h,h2];rfl
theorem Q8(h:N6 xs k=some d):xg (.c xs) (.a k)=some d:=by
 show fo none (fo none<|fo (N6 xs k) _)=_
 refine aK h ?_
 rfl
theorem jd{a b:aL}(h:b≠0):yc .Mod (.a a) (.a b)=some (.a<|a.fmod b):=aE (fo · _)<|ql<|ab h
theorem uR{a b:aL}(h:b≠0)(h2:gH b=true):yc .FloorDiv (.a a) (.a b)=some (.a<|a.fdiv b):=aE (fo · _)<|ql<|rP (ab h) h2
theorem je{a b:aL}(h:gH a=true)(h2:gH b=true):yc .Mult (.a a) (.a b)=some (.a<|a*b):=aE (fo · _)<|ql<|rP h h2
theorem wi{T}{B}{k}{δ iZ}(ht:T δ r=.c true r1)(hb:B δ r1=.a iZ r2):jE T B (k+1) δ r=jE T B k iZ r2:=by
 show(T δ r).fZ _=_
 refine aK ht ?_
 exact aE (λx=>SR.seq x _) hb
theorem qI{T}{B}{k}{δ}(ht:T δ r=.c false r1):jE T B (k+1) δ r=.a δ r1:=by
 show(T δ r).fZ _=_
 refine aK ht ?_
 rfl
theorem dX(h1: -1000000000000000000<i)(h2:i<1000000000000000000):gH i=true:=rP (ab<|ra (by decide) h1)<|ab<|ra h2 (by decide)
theorem cO(h:δ[i]?=some (some d)):dv ct (.b i) δ r=.c d r:=aE (λo=>bc.fG (xb o id) r) h
end
section
variable{ct:av->Fn}{elt a:Ex}{i:av}{it:It}{ts:n8}{δ:Dl}{r r1 r2:Rw}{xs acc:aa DV}
theorem DH(hi:Au ct it δ r=.c xs r1)
  (hc:gn (λx r=>(Y6 ct ts (δ.set i<|some x) r).bind λb r1=>if b=true then(dv ct elt (δ.set i<|some x) r1).bind λv r=>.c [v] r else .c [] r1) xs [] r1=.c acc r2):dv ct (.v elt i it ts) δ r=.c (.c acc) r2:=
 (bC hi).trans (bC hc)
theorem zJ(hi:Au ct it δ r=.c xs r1)(hc:gn (λx r=>(dv ct elt (δ.set i<|some x) r).bind λv r=>.c [v] r) xs [] r1=.c acc r2):dv ct (.v elt i it .b) δ r=.c (.c acc) r2:=DH hi hc
theorem wV(g:DV->DV)(hi:Au ct it δ r=.c xs r1)(hg: ∀x∈xs,dv ct elt (δ.set i<|some x) r1=.c (g x) r1):dv ct (.v elt i it .b) δ r=.c (.c<|xs.map g) r1:=by
 refine zJ hi<|(sr (λx=>[g x]) [] λx m=>bC<|hg x m).trans ?_
 rw[fO,List.map_eq_flatMap]
inductive Got(o:bc DV)(P:DV->Prop):Prop
 |mk (d:DV) (r':Rw) (e:o=.c d r') (p:P d)
inductive afc(o:bc DV)(n:av)(P:DV->Prop):Prop
 |mk (ds:aa DV) (r':Rw) (e:o=.c (.c ds) r') (l:ds.length=n) (p: ∀d∈ds,P d)
theorem qm{P:DV->Prop}(hi:Au ct it δ r=.c xs r1)(hg: ∀x∈xs,∀r,Got (dv ct elt (δ.set i<|some x) r) P):
  afc (dv ct (.v elt i it .b) δ r) xs.length P:=by
 obtain⟨ds,r2,h1,h2,h3⟩:=Q5 (P:=P) (aW:=λx r=>(dv ct elt (δ.set i<|some x) r).bind λv r=>.c [v] r) (xs:=xs) [] r1 λx m r=>by
  obtain⟨d,r',e,p⟩:=hg x m r
  exact⟨d,r',bC e,p⟩
 exact⟨ds,r2,zJ hi h1,h2,h3⟩
theorem qo(h:dv ct a δ r=.c (.a n) r1)(h1: -9999<=n)(h2:n<=9999):Au ct (.b<|.a a .b) δ r=.c (cG 0 n) r1:=(bC<|aV h (rfl:mE ct .b δ r1=.c [] r1)).trans<|rO (v:=cG 0 n)<|rP (ab h1)<|ab h2
theorem zK(h:dv ct a δ r=.c (.c xs) r1):Au ct (.a a) δ r=.c xs r1:=bC h
end
noncomputable def bQ:aa (aa av):=[bt,bg,bk,aG]
theorem UF(r:Rw):zj [.m] r=.c (.a<|r.headD 0) r.tail:=by cases r<;>rfl
noncomputable def KA(d:DV):Prop:= ∃n q:aL,d=.g [.a n,.a q]/\((q=0/\ -1<=n/\n<=1)\/(q=1/\ -100<=n/\n<=199)\/((q=2\/q=4)/\n%2=1/\ -100<=n/\n<=199))
noncomputable def gJ(k:aa av)(d:DV):Prop:=d=.f\/(k=bt/\(d=.a 0\/d=.a 1))\/(k=bg/\ ∃i:aL,d=.a i/\ -15<=i/\i<=24)\/(k=bk/\KA d)\/(k=aG/\ ∃l,d=.d l/\l.length<=999)
section
variable{n d:aL}{r:Rw}
noncomputable def Iz(n d a b:aL):Sl:=[some (false,.a n),some (false,.a d),some (false,.a a),some (false,.a b)]
noncomputable def Q9(δ:Sl)(r:Rw):bc Bool:=gi (aB oY) (.f .Gt (.b 3)<|.d 0) (b4 δ) r
noncomputable def UG(δ:Sl)(r:Rw):SR:=bM (aB oY) [] (.a (.i [2,3]<|.t<|.a (.b 3)<|.a (.i .Mod (.b 2)<|.b 3) .b) .b) δ r
theorem iU(h:0<b):jE Q9 UG (k+1) (Iz n d a b) r=jE Q9 UG k (Iz n d b<|a.fmod b) r:=by
 refine wi (r1:=r) (r2:=r) ((show Q9 (Iz n d a b) r=.c (decide<|b>0) r from rfl).trans (by rw[ab h])) ?_
 exact(zE (vs:=[.a b,.a<|a.fmod b]) (r1:=r) (lr (aV (r1:=r) rfl<|aV (cT (r1:=r) (r2:=r) rfl rfl<|jd<|jv h) rfl) (by simp)) rfl).trans rfl
theorem DJ(h:b=0):jE Q9 UG (k+1) (Iz n d a b) r=.a (Iz n d a b) r:=by
 subst h;rfl
theorem qp(hg:g≠0/\gH g=true)(h:jE Q9 UG 99 (Iz n d n.natAbs d) r=.a (Iz n d g z) r):sX [.a n,.a d] r=.c (.g [.a<|n.fdiv g,.a<|d.fdiv g]) r:=by
 refine cg rfl ?_
 refine(ax (d:=.a n.natAbs) (r1:=r) rfl rfl).trans ?_
 refine(ax (d:=.a d) (r1:=r) rfl rfl).trans ?_
 refine(uQ h).trans ?_
 refine bR ?_
 exact lr (aV (cT (r1:=r) (r2:=r) rfl rfl<|uR hg.1 hg.2)<|aV (cT (r1:=r) (r2:=r) rfl rfl<|uR hg.1 hg.2) rfl) (by simp)
theorem iV(h:0<d):(n.natAbs:aL).fmod d=(n.natAbs:aL)%d:=bZ _<|bz h
theorem IA(hn: -100<=n/\n<=199)(hd:d=1\/d=2\/d=4): ∃x,sX [.a n,.a d] r=.c x r/\KA x:=by
 have fd: ∀g:aL,0<g->n.fdiv g=n/g:=λg h=>Cq _<|bz h
 rcases hd with rfl|rfl|rfl
 ·refine⟨_,qp (g:=1) (z:=0) (by decide) ?_,n,1,?_,.inr<|.inl ⟨rfl,hn⟩⟩
  ·refine aK (iU (by decide))<|aK (iV (by decide)) ?_
   rw[Int.emod_one]
   exact aK (DJ rfl) rfl
  ·rw[fd _ (by decide),xd];rfl
 ·by_cases h:(n.natAbs:aL)%2=0
  ·refine⟨_,qp (g:=2) (z:=0) (by decide) ?_,n/2,1,?_,.inr<|.inl ⟨rfl,Zz hn⟩⟩
   ·exact aK (iU (by decide))<|aK (iV (by decide))<|aK h<|aK (DJ rfl) rfl
   ·rw[fd _ (by decide)];rfl
  ·refine⟨_,qp (g:=1) (z:=0) (by decide) ?_,n,2,?_,.inr<|.inr ⟨.inl rfl,NY<|(WS _).resolve_left h,hn⟩⟩
   ·rw[iU (by decide),iV (by decide),(WS _).resolve_left h,iU (by decide)];rfl
   ·rw[fd _ (by decide),xd];rfl
 ·have h4:=WT (n.natAbs:aL)
  rcases h4 with h|h|h|h
  ·refine⟨_,qp (g:=4) (z:=0) (by decide) ?_,n/4,1,?_,.inr<|.inl ⟨rfl,Tj hn⟩⟩
   ·exact aK (iU (by decide))<|aK (iV (by decide))<|aK h<|aK (DJ rfl) rfl
   ·rw[fd _ (by decide)];rfl
  ·refine⟨_,qp (g:=1) (z:=0) (by decide) ?_,n,4,?_,.inr<|.inr ⟨.inr rfl,NY<|Zy<|.inl h,hn⟩⟩
   ·rw[iU (by decide),iV (by decide),h,iU (by decide)];rfl
   ·rw[fd _ (by decide),xd];rfl
  ·refine⟨_,qp (g:=2) (z:=0) (by decide) ?_,n/2,2,?_,.inr<|.inr ⟨.inl rfl,NZ h,Zz hn⟩⟩
   ·rw[iU (by decide),iV (by decide),h,iU (by decide)];rfl
   ·rw[fd _ (by decide)];rfl
  ·refine⟨_,qp (g:=1) (z:=0) (by decide) ?_,n,4,?_,.inr<|.inr ⟨.inr rfl,NY<|Zy<|.inr h,hn⟩⟩
   ·rw[iU (by decide),iV (by decide),h,iU (by decide)];rfl
   ·rw[fd _ (by decide),xd];rfl
end
inductive Drawn(ct:av->Fn)(i:av)(δ:Dl)(r:Rw)(m:aL):Prop
 |mk (k:aL) (h0:0<=k) (h1:k<m) (e:dv ct (.i .Mod (.h 0 (.a (.b i) .b)) (.d m)) δ r=.c (.a k) r.tail)
theorem AS(hc:ct 0=zj)(hr:δ[i]?=some (some .m))(m:aL)(hm:0<m):Drawn ct i δ r m:=by
 refine⟨(r.headD 0).fmod m,?_,?_,?_⟩
 ·rw[bZ _<|bz hm];exact As _<|jv hm
 ·rw[bZ _<|bz hm];exact vw _ hm
 ·have h1:mE ct (.a (.b i) .b) δ r=.c [.m] r:=aV (cO hr) rfl
  exact cT (bu h1 (by rw[hc,UF])) rfl<|jd<|jv hm
theorem gM{ct:av->Fn}{δ:Dl}{r r1:Rw}{a:Ex}{i j:aL}{t:aM}(ha:dv ct a δ r=.c (.a i) r1)(h:decide (i=j)=t):gi ct (.f .Eq a<|.d j) δ r=.c t r1:=dz ha rfl (by rw[←h];rfl)
theorem KC(hk:kd∈bQ)(r:Rw):Got (zk [.m,.d kd] r) (gJ kd):=by
 let Yq:Sl:=[some (false,.m),some (false,.d kd),none]
 have dr: ∀(δ:Dl) (r:Rw) (m:aL),δ[0]?=some (some .m)->0<m->Drawn (aB k7) 0 δ r m:=λδ r m h1 h2=>AS rfl h1 m h2
 obtain⟨k0,_,_,e0⟩:=dr (b4 Yq) r 6 rfl (by decide)
 by_cases h0:k0=5
 ·refine⟨.f,r.tail,cg rfl<|(cQ (gM e0<|ab h0)<|bR rfl).trans rfl,.inl rfl⟩
 have s0:=λ(ss:ig) (a:ig)=>aH (mu:=[]) (ss:=ss) (a:=a)<|gM e0<|al h0
 simp only[bQ,a0,gh,sB]at hk
 rcases hk with rfl|rfl|rfl|rfl
 ·obtain⟨k1,a1,b1,e1⟩:=dr (b4 Yq) r.tail 2 rfl (by decide)
  refine⟨.a k1,r.tail.tail,cg rfl<|(s0 _ _).trans<|cQ rfl<|bR e1,.inr<|.inl ⟨rfl,?_⟩⟩
  exact(or2 a1 b1).imp (aE _)<|aE _
 ·obtain⟨k1,a1,b1,e1⟩:=dr (b4 Yq) r.tail 40 rfl (by decide)
  refine⟨.a<|k1 - 15,r.tail.tail,cg rfl<|(s0 _ _).trans<|(aH rfl).trans<|cQ rfl<|bR<|cT e1 rfl rfl,.inr<|.inr<|.inl ⟨rfl,k1 - 15,rfl,jj a1 15,jj (tD (b:=39) b1) 15⟩⟩
 ·obtain⟨k1,a1,b1,e1⟩:=dr (bU Yq) r.tail 10 rfl (by decide)
  have pre: ∀gQ,bM (aB k7) [] (.a (.b (.f .Eq (.b 2)<|.d 9) (.a (.c<|.m (.r<|.a (.t<|.a (.d 0)<|.a (.d 0) .b)<|.a (.t<|.a (.d 1)<|.a (.d 0) .b)<|.a (.t<|.a (.C<|.d 1)<|.a (.d 0) .b) .b)<|.i .Mod (.h 0<|.a (.b 0) .b)<|.d 3) .b) .b)<|.a (.c<|.h 1<|.a (.i .Sub (.i .Mod (.h 0<|.a (.b 0) .b)<|.d 300)<|.d 100)<|.a (.m (.r<|.a (.d 1)<|.a (.d 1)<|.a (.d 2)<|.a (.d 4) .b)<|.i .Mod (.b 2)<|.d 4) .b) .b) [some (false,.m),some (false,.d bk),some (false,.a k1)] r.tail.tail=gQ->
    bM (aB k7) m8.mu m8.body (eH m8 [.m,.d bk]) r=gQ:=λgQ h=>
   (s0 _ _).trans ((aH rfl).trans<|(aH rfl).trans<|(aH rfl).trans<|(ax rfl e1).trans h)
  by_cases h9:k1=9
  ·subst h9
   obtain⟨k2,a2,b2,e2⟩:=dr [some .m,some<|.d bk,some<|.a 9] r.tail.tail 3 rfl (by decide)
   rcases or3 a2 b2 with rfl|rfl|rfl
   ·exact⟨_,_,cg rfl<|pre _<|cQ rfl<|bR<|ew (z:=.g [.a 0,.a 0]) rfl e2 rfl,.inr<|.inr<|.inr<|.inl ⟨rfl,0,0,rfl,by decide⟩⟩
   ·exact⟨_,_,cg rfl<|pre _<|cQ rfl<|bR<|ew (z:=.g [.a 1,.a 0]) rfl e2 rfl,.inr<|.inr<|.inr<|.inl ⟨rfl,1,0,rfl,by decide⟩⟩
   ·exact⟨_,_,cg rfl<|pre _<|cQ rfl<|bR<|ew (z:=.g [.a (-1),.a 0]) rfl e2 rfl,.inr<|.inr<|.inr<|.inl ⟨rfl,-1,0,rfl,by decide⟩⟩
  ·obtain⟨k2,a2,b2,e2⟩:=dr [some .m,some<|.d bk,some<|.a k1] r.tail.tail 300 rfl (by decide)
   have hq: ∃q:aL,(q=1\/q=2\/q=4)/\dv (aB k7) (.m (.r<|.a (.d 1)<|.a (.d 1)<|.a (.d 2)<|.a (.d 4) .b)<|.i .Mod (.b 2)<|.d 4) [some .m,some<|.d bk,some<|.a k1] r.tail.tail.tail=.c (.a q) r.tail.tail.tail:=by
    have hf:k1.fmod 4=k1%4:=bZ _ (by decide)
    rcases(WT k1) with h|h|h|h
    ·exact⟨1,.inl rfl,ew (y:=.a 0) rfl (cT rfl rfl<|(jd (by decide)).trans (by rw[hf,h])) rfl⟩
    ·exact⟨1,.inl rfl,ew (y:=.a 1) rfl (cT rfl rfl<|(jd (by decide)).trans (by rw[hf,h])) rfl⟩
    ·exact⟨2,.inr<|.inl rfl,ew (y:=.a 2) rfl (cT rfl rfl<|(jd (by decide)).trans (by rw[hf,h])) rfl⟩
    ·exact⟨4,.inr<|.inr rfl,ew (y:=.a 3) rfl (cT rfl rfl<|(jd (by decide)).trans (by rw[hf,h])) rfl⟩
   refine aU λG9 k9=>?_
   obtain⟨q,cq,eq⟩:=hq
   obtain⟨x,hx,px⟩:=IA (n:=k2 - 100) (d:=q) (r:=r.tail.tail.tail) ⟨jj a2 100,jj (tD (b:=299) b2) 100⟩ cq
   refine k9 ?_
   refine⟨x,_,cg rfl<|pre _<|(aH<|gM rfl<|al h9).trans<|bR<|bu (aV (cT e2 rfl rfl)<|aV eq rfl) hx,.inr<|.inr<|.inr<|.inl ⟨rfl,px⟩⟩
 ·obtain⟨k1,a1,b1,e1⟩:=dr (b4 Yq) r.tail 90 rfl (by decide)
  obtain⟨k2,a2,b2,e2⟩:=dr (b4 Yq) r.tail.tail 7 rfl (by decide)
  have hc:SH .Lm [.a<|32+k1]=some (.d [(32+k1).toNat]):=by
   show gL (decide (0<=32+k1)&&decide (32+k1<1000)) _=_
   rw[ab (tF (by decide) a1),ab<|ra (Nx b1 32) (by decide)];rfl
  have hl:dv (aB k7) (.r<|.a (.g [])<|.a (.g [97])<|.a (.g [98])<|.a (.g [49,48])<|.a (.g tZ)<|.a (.g UB)<|.a (.k .Lm<|.a (.i .Add (.d 32)<|.i .Mod (.h 0<|.a (.b 0) .b)<|.d 90) .b) .b) (b4 Yq) r.tail=.c (.c [.d [],.d [97],.d [98],.d [49,48],.d tZ,.d UB,.d [(32+k1).toNat]]) r.tail.tail:=
   Q7 (aV rfl<|aV rfl<|aV rfl<|aV rfl<|aV rfl<|aV rfl<|aV (pJ (aV (cT rfl e1 rfl) rfl) hc) rfl) (by simp)
  have fin: ∀l,xg (.c [.d [],.d [97],.d [98],.d [49,48],.d tZ,.d UB,.d [(32+k1).toNat]]) (.a k2)=some (.d l)->l.length<=999->Got (zk [.m,.d aG] r) (gJ aG):=λl h h2=>
   ⟨.d l,_,cg rfl<|(s0 _ _).trans<|(aH rfl).trans<|(aH rfl).trans<|cQ rfl<|bR<|ew hl e2 h,.inr<|.inr<|.inr<|.inr ⟨rfl,l,rfl,h2⟩⟩
  rcases or7 a2 b2 with rfl|rfl|rfl|rfl|rfl|rfl|rfl
  all_goals exact fin _ rfl<|dY rfl
noncomputable def gD(n:aL):aa DV:=(cG 0 n).map λx=>match x with|.a j=>.d [(97+j).toNat]|_=>.f
noncomputable def mj:DV:=.n 1 [(0,.d dQ),(2,.f)]
noncomputable def iv:DV->DV
 |.c xs=>aS (.d aG) xs .f
 |_=>mj
noncomputable def IB(dims:aa aL):DV:=aS (.d bg) (dims.map .a) .f
noncomputable def l0(dims:aa aL):Prop:=(∃a b:aL,1<=a/\a<=3/\1<=b/\b<=4/\dims=[a,b])\/(∃a b c:aL,1<=a/\a<=3/\1<=b/\b<=4/\1<=c/\c<=3/\dims=[a,b,c])
noncomputable def oH:aa aL->aa DV->Prop
 |[],[]=>True
 |e::es,d::ds=>(d=.f\/d=.c (gD e))/\oH es ds
 |_,_=>cC
noncomputable def jo:aa DV:=[.d [114],.d [115],.d [116]]
noncomputable def Ra(pat:DV):Prop:=pat=.f\/ ∃n,pat=.h [(i5,aS (.d aG) (jo.take n) .f)]
noncomputable def KD(dims:aa aL)(lists cx:DV):Prop:=(lists=.f/\cx=.h [(kM,IB dims)])\/
 ∃ls pat,lists=.c ls/\oH dims ls/\Ra pat/\cx=.h [(kM,IB dims),(ge,aS (.d dL) (ls.map iv) pat)]
noncomputable def s6(dims:aa aL):Int:=dims.foldl (· * ·) 1
structure iB(k:aa av)(dims:aa aL)(lists v:DV):Prop where
 kind:k∈bQ
 GK:l0 dims
 ex: ∃its cx,v=aS (.d k) its (.h cx)/\its.length=(s6 dims).toNat/\(∀d∈its,gJ k d)/\KD dims lists (.h cx)
theorem l0.abC(h:l0 dims):1<=s6 dims/\s6 dims<=36:=by
 have m: ∀{a b n k:aL},1<=a/\a<=n->1<=b/\b<=k->0<=n->1<=a*b/\a*b<=n*k:=λ{a b n k} ha hb hn=>
  ⟨tC ha.1 hb.1 (by decide) (ay (by decide) ha.1),tC ha.2 hb.2 (ay (by decide) hb.1) hn⟩
 rcases h with⟨a,b,a1,a2,b1,b2,rfl⟩|⟨a,b,c,a1,a2,b1,b2,c1,c2,rfl⟩
 ·have h:=m (m (n:=1) ⟨fa 1,fa 1⟩ ⟨a1,a2⟩ (by decide)) ⟨b1,b2⟩ (by decide)
  exact⟨h.1,ay h.2 (by decide)⟩
 ·have h:=m (m (m (n:=1) ⟨fa 1,fa 1⟩ ⟨a1,a2⟩ (by decide)) ⟨b1,b2⟩ (by decide)) ⟨c1,c2⟩ (by decide)
  exact⟨h.1,ay h.2 (by decide)⟩
theorem l0.rm(h:l0 dims): ∀e∈dims,1<=e/\e<=4:=by
 have no: ∀e∈([]:aa aL),1<=e/\e<=4:=λU m=>nomatch m
 have up: ∀{e:aL},e<=3->e<=4:=λh=>ay h (by decide)
 rcases h with⟨a,b,a1,a2,b1,b2,rfl⟩|⟨a,b,c,a1,a2,b1,b2,c1,c2,rfl⟩
 ·exact bX.mpr ⟨⟨a1,up a2⟩,bX.mpr ⟨⟨b1,b2⟩,no⟩⟩
 ·exact bX.mpr ⟨⟨a1,up a2⟩,bX.mpr ⟨⟨b1,b2⟩,bX.mpr ⟨⟨c1,up c2⟩,no⟩⟩⟩
theorem l0.cn(h:l0 dims):2<=dims.length/\dims.length<=3:=by
 rcases h with⟨a,b,a1,a2,b1,b2,rfl⟩|⟨a,b,c,a1,a2,b1,b2,c1,c2,rfl⟩<;>simp
noncomputable abbrev kO:jW:=wT
section
variable{δ:Dl}{r:Rw}{dims:aa aL}{kd:aa av}
theorem Rb(h:i≠j):(δ.set i o)[j]?=δ[j]?:=by rw[sK h]
theorem ID{T}(hk:kd∈bQ)(h0:δ[0]?=some (some .m))(h1:δ[1]?=some (some<|.d kd))(h3:δ[3]?=some (some<|.a T))(hT:0<=T/\T<=9999):
  ∃its r',dv (aB kO) Ks δ r=.c (.c its) r'/\its.length=T.toNat/\ ∀d∈its,gJ kd d:=by
 obtain⟨its,r',e1,e2,e3⟩:=qm (ct:=aB kO) (elt:=.h 4<|.a (.b 0)<|.a (.b 1) .b) (i:=9) (P:=gJ kd) (qo (r:=r) (cO h3) (ay (by decide) hT.1) hT.2) λx U r=>by
  obtain⟨d,r',e,p⟩:=KC hk r
  exact⟨d,r',bu (aV (cO (by rw[Rb (by decide),h0]))<|aV (cO (by rw[Rb (by decide),h1])) rfl) e,p⟩
 refine⟨its,r',e1,?_,e3⟩
 rw[e2];unfold cG;simp
theorem IE(h:1<=e/\e<=4)(Mo:δ[10]?=some (some<|.a e))(h11:δ.length=14):dv (aB kO) Dp δ r=.c (.c<|gD e) r:=by
 refine wV _ (qo (cO Mo) (ay (by decide) h.1)<|ay h.2 (by decide)) λx m=>?_
 unfold cG at m
 rw[bb]at m
 obtain⟨j,hj,rfl⟩:=m
 rw[bE]at hj
 have hc:SH .Lm [.a<|97+(0+(j:aL))]=some (.d [(97+(0+(j:aL))).toNat]):=by
  show gL (decide (0<=_)&&decide (_<1000)) _=_
  rw[ir,ab (tF (by decide)<|ba j),ab<|bd (Nx (bd (Ha.mp hj)<|Aq _ (by decide)) 97)<|ay (uj h.2 97) (by decide)];rfl
 exact pJ (aV (cT rfl (cO<|eT<|eG (by decide) h11.symm) rfl) rfl) hc
theorem IF(hd:l0 dims)(h0:δ[0]?=some (some .m))(h2:δ[2]?=some (some<|.c<|dims.map .a))(hl:δ.length=14): ∃ls r',dv (aB kO) Kt δ r=.c (.c ls) r'/\oH dims ls:=by
 have key: ∀(es:aa aL) (acc:aa DV) (r:Rw),(∀e∈es,1<=e/\e<=4)-> ∃ls r',gn (λx r=>(dv (aB kO) (.w (.f .Eq (.i .Mod (.h 0<|.a (.b 0) .b)<|.d 3)<|.d 2) .o Dp) (δ.set 10<|some x) r).bind λv r=>.c [v] r) (es.map .a) acc r=.c (acc++ls) r'/\oH es ls:=by
  intro es
  induction es with
  |nil=>exact λacc r U=>⟨[],r,by rw[bI];rfl,trivial⟩
  |cons e es ih=>
   intro acc r he
   refine aU λG9 k9=>?_
   obtain⟨k,_,_,ek⟩:=AS (ct:=aB kO) (i:=0) (δ:=δ.set 10<|some<|.a e) (r:=r) rfl (by rw[Rb (by decide),h0]) 3 (by decide)
   refine k9 ?_
   by_cases hk:k=2
   ·refine jK (ih (acc++[.f]) r.tail λx m=>he x<|.tail _ m) λls r' h9=>cK h9 λe1 e2=>?_
    refine⟨.f::ls,r',k8 (a:=[.f]) (r1:=r.tail) ?_ (e1.trans (by simp)),.inl rfl,e2⟩
    rw[jz (gM ek<|ab hk) (X:=.c .f r.tail) rfl];rfl
   ·refine jK (ih (acc++[.c<|gD e]) r.tail λx m=>he x<|.tail _ m) λls r' h9=>cK h9 λe1 e2=>?_
    refine⟨.c (gD e)::ls,r',k8 (a:=[.c<|gD e]) (r1:=r.tail) ?_ (e1.trans (by simp)),.inr rfl,e2⟩
    rw[jb (gM ek<|al hk)<|IE (he e<|.head _) (by rw[eT (by lia)]) (by rw[dn];exact hl)];rfl
 refine aU λG9 k9=>?_
 refine jK (key dims [] r hd.rm) λls r' h9=>cK h9 λe1 e2=>?_
 refine k9 ?_
 exact⟨ls,r',zJ (zK<|cO h2) (e1.trans (by simp)),e2⟩
theorem oH.rm: ∀{es:aa aL} {ls:aa DV},oH es ls-> ∀d∈ls,d=.f\/ ∃xs,d=.c xs:=λ{es}=>by
 induction es with
 |nil=>intro ls h d m;cases ls with
  |nil=>exact nomatch m
  |cons=>exact uk h
 |cons e es ih=>intro ls h d m;cases ls with
  |nil=>exact uk h
  |cons x ls=>
   rcases a0.mp m with rfl|m
   ·exact h.1.imp id λh=>⟨_,h⟩
   ·exact ih h.2 d m
theorem oH.cn: ∀{es:aa aL} {ls:aa DV},oH es ls->ls.length=es.length:=λ{es}=>by
 induction es with
 |nil=>intro ls h;cases ls with
  |nil=>rfl
  |cons=>exact uk h
 |cons e es ih=>intro ls h;cases ls with
  |nil=>exact uk h
  |cons x ls=>exact aE Nat.succ<|ih h.2
theorem IG(h:oH dims ls)(h6:δ[6]?=some (some<|.c ls))(hl:δ.length=14):dv (aB kO) Ku δ r=.c (.c<|ls.map iv) r:=by
 refine wV _ (zK<|cO h6) λx m=>?_
 have hs:(δ.set 12<|some x)[12]?=some (some x):=eT<|eG (by decide) hl.symm
 rcases h.rm x m with rfl|⟨xs,rfl⟩
 ·exact jz (dz (cO hs) rfl rfl) rfl
 ·exact jb (dz (cO hs) rfl rfl)<|wU (aV rfl<|aV (cO hs) rfl) rfl
theorem IH(hd:l0 dims)(h2:δ[2]?=some (some<|.c<|dims.map .a))(hl:δ.length=14):dv (aB kO) Kv δ r=.c (.c<|jo.take dims.length) r:=by
 have hn:Au (aB kO) (.b<|.a (.k .cn<|.a (.b 2) .b) .b) δ r=.c (cG 0 dims.length) r:=qo (pJ (aV (cO h2) rfl) (by show some (DV.a (dims.map DV.a).length)=_;rw[aw])) (ay (by decide)<|ba _)<|cle<|ao hd.cn.2 (by decide)
 have:=wV (elt:=.m (.r<|.a (.g [114])<|.a (.g [115])<|.a (.g [116]) .b)<|.b 13) (i:=13) (λx=>match x with|.a j=>jo[j.toNat]?.getD .f|_=>.f) hn λx m=>by
  unfold cG at m
  replace m:=(bb).mp m
  obtain⟨j,hj,rfl⟩:=m
  replace hj:=(bE).mp hj
  rcases(by decide: ∀j:av,j<3->j=0\/j=1\/j=2) j (eE hj (by rw[gO,SD];exact hd.cn.2)) with rfl|rfl|rfl
  all_goals exact ew rfl (cO<|eT<|eG (by decide) hl.symm) rfl
 refine this.trans ?_
 rcases hd with⟨a,b,a1,a2,b1,b2,rfl⟩|⟨a,b,c,a1,a2,b1,b2,c1,c2,rfl⟩<;>rfl
end
noncomputable def KE(m:aL):Ex:=.i .Add (.d 1)<|.i .Mod (.h 0<|.a (.b 0) .b)<|.d m
theorem zL:rG=.a (.a 2<|.r<|.a (KE 3)<|.a (KE 4) .b) (.a (.b (.f .Eq (.i .Mod (.h 0<|.a (.b 0) .b)<|.d 3)<|.d 2) (.a (.d<|.p .append (.b 2)<|.a (KE 3) .b) .b) .b) Ik):=rfl
section
variable{δ:Dl}{r:Rw}
theorem Rc(h:oH dims ls)(h6:δ[6]?=some (some<|.c ls)): ∃t,gi (aB kO) Wt δ r=.c t r:=by
 have hm:dv (aB kO) (.p .Ba (.b 6)<|.a .o .b) δ r=.c (.a (ls.filter λy=>Hd .f y==some true).length) r:=
  (bC<|cO h6).trans (rO (aF.mpr λd m=>by rcases h.rm d m with rfl|⟨xs,rfl⟩<;>rfl))
 exact⟨_,dz hm (pJ (aV (cO h6) rfl) rfl) rfl⟩
theorem zM(h0:δ[0]?=some (some .m)): ∃t,gi (aB kO) Dq δ r=.c t r.tail:=by
 refine aU λG9 k9=>?_
 obtain⟨k,_,_,e⟩:=AS (ct:=aB kO) (r:=r) rfl h0 2 (by decide)
 refine k9 ?_
 exact⟨_,gM e rfl⟩
theorem zN(h0:δ[0]?=some (some .m))(hm:0<m): ∃k:aL,(1<=k/\k<=m)/\dv (aB kO) (KE m) δ r=.c (.a k) r.tail:=by
 refine aU λG9 k9=>?_
 obtain⟨k,a,b,e⟩:=AS (ct:=aB kO) (r:=r) rfl h0 m hm
 refine k9 ?_
 exact⟨1+k,⟨Cp a,ay (f8<|rb 1 k) b⟩,cT rfl e rfl⟩
end
section
variable{ct:av->Fn}{mu:aa av}{i j:av}{e:Ex}{ss:ig}{δ:Sl}{r r1:Rw}{d k it cx y:DV}{es:aa (aa av×DV)}{l:aa av}
theorem MA(hl:tK e=true)(h:dv ct e (bU δ) r=.c (.h es) r1)(ho:δ[i]?=some (some (true,jD k it cx))):bM ct mu (.a (.m (.b i) 2 e) ss) δ r=bM ct mu ss (gI δ i<|jD k it<|.h es) r1:=by
 refine dE ?_
 show(dv ct e (bU δ) r).fZ (λd r=>dO ((dJ δ i).bind Ct) λv=>if(2==2&&tK e&&d.dN.isSome)=true then .a (gI δ i<|jD v.1 v.2.1 d) r else .e)=_
 refine aK h<|aK (lY ho)<|aK hl ?_
 rfl
theorem MB(hj:δ[j]?=some (some (true,d)))(ho:(di δ j d)[i]?=some (some (true,jD k it cx)))(hs:fM (bU<|di δ j d) j=some d)(hd:cx=.h es)(hp:oR cx (.d l) d=some y)(hl:l.length<=9999):
  bM ct mu (.a (.h (.l (.b i) 2) (.g l)<|.b j) ss) δ r=bM ct mu ss (gI (di δ j d) i<|jD k it y) r:=by
 refine dE ?_
 subst hd
 have e:Av (.b j) δ=di δ j d:=Be<|lY hj
 show wD (dv ct<|.b j) (dv ct<|.g l) i 2 (Av (.b j) δ) r=_
 refine aK e ?_
 unfold wD
 refine aK (lY ho) ?_
 show bc.fZ (bc.fG (fM (bU<|di δ j d) j) r) _=_
 refine aK hs ?_
 show bc.fZ (bc.fG (gL (decide<|l.length<=9999)<|DV.d l) r) _=_
 refine aK (ab hl) ?_
 show dO (oR (.h es) (.d l) d) _=_
 refine aK hp ?_
 rfl
end
noncomputable abbrev O:=ag<|aM×DV
noncomputable abbrev P(d:DV):O:=some (false,d)
noncomputable def qT(kd:aa av)(o2 o3 o4 o5 o6 o7 o8:O):Sl:=[P .m,P<|.d kd,o2,o3,o4,o5,o6,o7,o8,none,none,none,none,none]
noncomputable abbrev gf(dims:aa aL):DV:=.c<|dims.map .a
inductive AT(x:SR)(kd:aa av):Prop
 |mk {dims v lists heads r'} (e:x=.b (.g [v,gf dims,lists,heads]) r') (h:iB kd dims lists v)
theorem AT.of(e:x=y)(h:AT y kd):AT x kd:=e▸h
noncomputable abbrev AU:=bM (aB kO) [2,8,5]
noncomputable abbrev v0(kd:aa av)(its:aa DV)(dims:aa aL):DV:=aS (.d kd) its<|.h [(kM,IB dims)]
structure KG(kd:aa av)(its:aa DV)(dims:aa aL):Prop where
 kind:kd∈bQ
 GK:l0 dims
 cn:its.length=(s6 dims).toNat
 HH: ∀d∈its,gJ kd d
section
variable{kd:aa av}{dims:aa aL}{its ls:aa DV}{o3 o4 o5:O}{r:Rw}
theorem BS(K:KG kd its dims):AT (AU y8 (qT kd (P<|gf dims) o3 o4 (some (true,v0 kd its dims)) (P .f) (P heads) o8) r) kd:=
 .of (bR rfl) ⟨rfl,K.kind,K.GK,_,_,rfl,K.cn,K.HH,.inl ⟨rfl,rfl⟩⟩
theorem UH(K:KG kd its dims)(hn:oH dims ls): ∃δ' r',AU QF (qT kd (P<|gf dims) o3 o4 (some (true,v0 kd its dims)) (P<|.c ls) (P .f)<|some (true,aS (.d dL) (ls.map iv) .f)) r=.a δ' r'/\AT (AU y8 δ' r') kd:=by
 have fin: ∀{pat heads:DV} {r:Rw},Ra pat-> ∃δ' r',AU (.a (.h (.l (.b 5) 2) (.g ge)<|.b 8) .b) (qT kd (P<|gf dims) o3 o4 (some (true,v0 kd its dims)) (P<|.c ls) (P heads)<|some (true,aS (.d dL) (ls.map iv) pat)) r=.a δ' r'/\AT (AU y8 δ' r') kd:=λ{pat heads r} hp=>
  ⟨_,_,MB (k:=.d kd) (it:=.c its) (es:=[(kM,IB dims)]) (y:=.h [(kM,IB dims),(ge,aS (.d dL) (ls.map iv) pat)]) rfl rfl rfl rfl rfl (by decide),
   .of (bR rfl) ⟨rfl,K.kind,K.GK,_,_,rfl,K.cn,K.HH,.inr ⟨ls,pat,rfl,hn,hp,rfl⟩⟩⟩
 refine bN (zM (δ:=b4<|qT kd (P<|gf dims) o3 o4 (some (true,v0 kd its dims)) (P<|.c ls) (P .f)<|some (true,aS (.d dL) (ls.map iv) .f)) (r:=r) rfl) λt et=>?_
 cases t with
 |false=>
  refine jK (fin (pat:=.f) (heads:=.f) (r:=r.tail)<|.inl rfl) λδ' r' h9=>cK h9 λe h=>?_
  exact⟨δ',r',(aH et).trans e,h⟩
 |true=>
  refine jK (fin (pat:=.h [(i5,aS (.d aG) (jo.take dims.length) .f)]) (heads:=.c<|jo.take dims.length) (r:=r.tail)<|.inr ⟨_,rfl⟩) λδ' r' h9=>cK h9 λe h=>?_
  refine⟨δ',r',(dh et ?_).trans e,h⟩
  refine(ax (d:=.c<|jo.take dims.length) (r1:=r.tail) rfl<|IH K.GK rfl rfl).trans ?_
  exact(MA (r1:=r.tail) (k:=.d dL) (it:=.c<|ls.map iv) (cx:=.f) (es:=[(i5,aS (.d aG) (jo.take dims.length) .f)]) rfl rfl rfl).trans rfl
theorem MC(K:KG kd its dims): ∃δ' r',AU QG (qT kd (P<|gf dims) o3 o4 (some (true,v0 kd its dims)) (P .f) (P .f) o8) r=.a δ' r'/\AT (AU y8 δ' r') kd:=by
 refine aU λG9 k9=>?_
 refine jK (IF (δ:=bU<|qT kd (P<|gf dims) o3 o4 (some (true,v0 kd its dims)) (P .f) (P .f) o8) (r:=r) K.GK rfl rfl rfl) λls r1 h9=>cK h9 λe1 hn=>?_
 refine bN (Rc (δ:=b4<|qT kd (P<|gf dims) o3 o4 (some (true,v0 kd its dims)) (P<|.c ls) (P .f) o8) (r:=r1) hn rfl) λt et=>?_
 refine k9 ?_
 cases t with
 |true=>
  refine⟨_,_,(ax rfl e1).trans<|(dh et<|(ax (d:=.f) (r1:=r1) rfl rfl).trans rfl).trans rfl,?_⟩
  exact BS K
 |false=>
  refine aU λG9 k9=>?_
  refine jK (UH (o3:=o3) (o4:=o4) (r:=r1) K hn) λδ' r' h9=>cK h9 λe h=>?_
  refine k9 ?_
  refine⟨δ',r',(ax rfl e1).trans<|(fB et<|(iT (d:=aS (.d dL) (ls.map iv) .f) (r1:=r1) rfl<|wU (aV rfl<|aV (IG hn rfl rfl) rfl) rfl).trans e).trans rfl,h⟩
theorem Rd(K:KG kd its dims):AT (AU QH (qT kd (P<|gf dims) o3 o4 (some (true,v0 kd its dims)) o6 o7 o8) r) kd:=by
 refine .of ((ax (d:=.f) (r1:=r) rfl rfl).trans<|ax (d:=.f) (r1:=r) rfl rfl) ?_
 refine bN (zM (δ:=b4<|qT kd (P<|gf dims) o3 o4 (some (true,v0 kd its dims)) (P .f) (P .f) o8) (r:=r) rfl) λt et=>?_
 cases t with
 |false=>exact .of (aH et) (BS K)
 |true=>
  refine aU λG9 k9=>?_
  refine jK (MC (o3:=o3) (o4:=o4) (r:=r.tail) (o8:=o8) K) λδ' r' h9=>cK h9 λe h=>?_
  refine k9 ?_
  exact .of (dh et e) h
theorem BU(h:i.natAbs<=4^n)(hn:n<=20):gH i=true:=by
 have h3:i.natAbs<=1099511627776:=ao h<|Nat.pow_le_pow_right (by decide) hn
 exact dX (bd (by decide) (N1 h3).1)<|bF (N1 h3).2 (by decide)
theorem Re: ∀(ds:aa aL) (t:aL) (n:av) (o4:O),(∀d∈ds,1<=d/\d<=4)->t.natAbs<=4^n->n+ds.length<=20->
  ∃o4',dH (kN (aB kO) [2,8,5] 4 QI) (ds.map .a) (qT kd (P<|gf dims) (P<|.a t) o4 none none none none) r=.a (qT kd (P<|gf dims) (P<|.a<|ds.foldl (· * ·) t) o4' none none none none) r:=by
 intro ds
 induction ds with
 |nil=>exact λt n o4 U U U=>⟨o4,rfl⟩
 |cons d ds ih=>
  intro t n o4 h ht hl
  have hd:=h d<|.head _
  have h4:=ya (k:=4) (ay (by decide) hd.1) hd.2
  obtain⟨o4',e⟩:=ih (t*d) (n+1) (P<|.a d) (λx m=>h x<|.tail _ m) (by rw[Int.natAbs_mul];exact oN ht h4)<|ZA hl
  refine⟨o4',bq (r1:=r) ((ax (d:=.a<|t*d) (r1:=r) rfl<|cT (r1:=r) (r2:=r) rfl rfl<|je (BU ht<|ao (c0 ..) hl)<|BU (n:=1) h4 (by decide)).trans rfl) e⟩
theorem F9(hk:kd∈bQ)(hd:l0 dims):AT (AU Ik (qT kd (some (true,gf dims)) none none none none none none) r) kd:=by
 obtain⟨o4,e⟩:=Re (kd:=kd) (dims:=dims) (r:=r) dims 1 0 none hd.rm (by decide)<|ao (cX<|kU _)<|ao hd.cn.2 (by decide)
 refine .of ((ax (d:=.a 1) (r1:=r) rfl rfl).trans<|Yn (d:=gf dims) (r1:=r) rfl rfl rfl rfl e) ?_
 refine aU λG9 k9=>?_
 obtain⟨its,r1,e1,hl,hi⟩:=ID (δ:=bU<|qT kd (P<|gf dims) (P<|.a<|s6 dims) o4 none none none none) (r:=r) (T:=s6 dims) hk rfl rfl rfl (by have:=hd.abC;exact⟨bz (mD.left (by assumption)),ay (mD.right (by assumption)) (by decide)⟩)
 refine k9 ?_
 exact .of (iT (d:=v0 kd its dims) (r1:=r1) rfl<|wU (aV rfl<|aV e1 rfl) rfl)<|Rd ⟨hk,hd,hl,hi⟩
theorem zO(hk:kd∈bQ)(r:Rw): ∃dims v lists heads r',F5 [.m,.d kd] r=.c (.g [v,gf dims,lists,heads]) r'/\iB kd dims lists v:=by
 have go:AT (AU rG (qT kd none none none none none none none) r) kd:=by
  refine aK zL ?_
  obtain⟨a,ha,ea⟩:=zN (δ:=bU<|qT kd none none none none none none none) (r:=r) (m:=3) rfl (by decide)
  obtain⟨b,hb,eb⟩:=zN (δ:=bU<|qT kd none none none none none none none) (r:=r.tail) (m:=4) rfl (by decide)
  refine .of (iT (d:=gf [a,b]) (r1:=r.tail.tail) rfl<|Q7 (aV ea<|aV eb rfl) (by decide:2<=999)) ?_
  obtain⟨k,_,_,ek⟩:=AS (ct:=aB kO) (i:=0) (δ:=b4<|qT kd (some (true,gf [a,b])) none none none none none none) (r:=r.tail.tail) rfl rfl 3 (by decide)
  by_cases h2:k=2
  ·obtain⟨c,hc,ec⟩:=zN (δ:=bU<|qT kd (some (true,gf [a,b])) none none none none none none) (r:=r.tail.tail.tail) (m:=3) rfl (by decide)
   exact .of (dh (gM ek<|ab h2)<|(dk (xs:=[.a a,.a b]) rfl ec (by decide:2<9999)).trans rfl)<|F9 (dims:=[a,b,c]) hk<|.inr ⟨a,b,c,ha.1,ha.2,hb.1,hb.2,hc.1,hc.2,rfl⟩
  ·exact .of (aH<|gM ek<|al h2)<|F9 (dims:=[a,b]) hk<|.inl ⟨a,b,ha.1,ha.2,hb.1,hb.2,rfl⟩
 obtain⟨e,h⟩:=go
 exact⟨_,_,_,_,_,cg rfl e,h⟩
end
theorem DK:v7=.a (.a 1<|.r .b) (.a (.e 2 (.a<|.tG (.b 0)<|.d 40) Il) QK):=rfl
noncomputable def Ga(o:O)(is:aa aL)(c f l:O):Sl:=[o,some (true,gf is),c,f,l]
noncomputable abbrev Yr:=bM (aB []) [1]
theorem MD{ct:av->Fn}{mu:aa av}{i:av}{ss:ig}{δ:Sl}{r:Rw}{xs:aa DV}(ho:δ[i]?=some (some (true,.c xs))):bM ct mu (.a (.d<|.p .reverse (.b i) .b) ss) δ r=bM ct mu ss (gI δ i<|.c xs.reverse) r:=by
 refine dE ?_
 show dO ((dJ δ i).bind DV.bW) (λxs=>.a (gI δ i<|.c xs.reverse) r)=_
 refine aK (lY ho) ?_
 rfl
theorem UI{ct:av->Fn}{mu:aa av}{i:av}{ss:ig}{δ:Sl}{r:Rw}{d:DV}(ho:δ[i]?=some (some (true,d))):bM ct mu (.a (.f<|.b i) ss) δ r=.g d r:=by
 refine xN ?_
 show dO (dJ δ i) (λd=>.g d r)=_
 refine aK (lY ho) ?_
 rfl
inductive afe(x:SR)(o c:O)(n:av)(r:Rw):Prop
 |mk {is f l} (e:x=.a (Ga o is c (P (.a f)) l) r) (h:is.length<=n)
inductive aff(x:SR)(o:O)(n:av)(r:Rw):Prop
 |mk {is c f l} (e:x=.a (Ga o is c f l) r) (h:is.length<=n)
section
variable{o c l:O}{r:Rw}{is:aa aL}{f:aL}
theorem KH(h:is.length<9999):Yr (.a (.d<|.p .append (.b 1)<|.a (.i .Mod (.b 3)<|.d 1024) .b)<|.a (.a 3<|.i .FloorDiv (.b 3)<|.d 1024) ss) (Ga o is c (P<|.a f) l) r=Yr ss (Ga o (is++[f.fmod 1024]) c (P<|.a<|f.fdiv 1024) l) r:=by
 refine(dk (xs:=is.map .a) (d:=.a<|f.fmod 1024) (r1:=r) rfl (cT (r1:=r) (r2:=r) rfl rfl<|jd (by decide)) (by rw[aw];exact h)).trans ?_
 refine(ax (d:=.a<|f.fdiv 1024) (r1:=r) rfl<|cT (r1:=r) (r2:=r) rfl rfl<|uR (by decide) (by decide)).trans ?_
 unfold Ga gf
 rw[mB]
 rfl
theorem KI(h:is.length+1+n<=m):(is++[f]).length+n<=m:=by
 rw[aP]
 exact h
theorem UJ: ∀(xs:aa DV) (is:aa aL) (f:aL) (l:O),is.length+xs.length<=9000->afe (dH (kN (aB []) [1] 4 Wu) xs (Ga o is c (P<|.a f) l) r) o c (is.length+xs.length) r:=by
 intro xs
 induction xs with
 |nil=>exact λis f l h=>⟨rfl,bK _⟩
 |cons x xs ih=>
  intro is f l h
  rw[dq]at h ⊢
  by_cases hf:f>0
  ·obtain⟨e1,e2⟩:=ih (is++[f.fmod 1024]) (f.fdiv 1024) (P x)<|KI<|ZA h
   rw[aP,jT,nN [f.fmod 1024].length]at e2
   exact⟨bq (dh (dz (x:=.a f) (y:=.a 0) (r1:=r) (r2:=r) rfl rfl<|aE some<|ab hf)<|KH (ss:=.b)<|aI (c0 ..)<|aI h (by decide)) e1,e2⟩
  ·obtain⟨e1,e2⟩:=ih is f (P x)<|ju (by assumption)
   exact⟨bq (aH<|dz (x:=.a f) (y:=.a 0) (r1:=r) (r2:=r) rfl rfl<|aE some<|al hf) e1,fN e2⟩
theorem ME(h:δ[2]?=some (some<|.a z)): ∃g:aL,dv (aB []) QJ δ r=.c (.a g) r:=by
 by_cases hz:z>=0
 ·exact⟨z,jz (dz (x:=.a z) (y:=.a 0) (r1:=r) (r2:=r) (cO h) rfl<|aE some<|ab hz)<|cO h⟩
 ·exact⟨7 - z,jb (dz (x:=.a z) (y:=.a 0) (r1:=r) (r2:=r) (cO h) rfl<|aE some<|al hz)<|cT rfl (cO h) rfl⟩
theorem MF: ∀(zs:aa aL) (is:aa aL) (c f l:O),is.length+31*zs.length<=9000->aff (dH (kN (aB []) [1] 2 Il) (zs.map .a) (Ga o is c f l) r) o (is.length+31*zs.length) r:=by
 intro zs
 induction zs with
 |nil=>exact λis c f l h=>⟨rfl,bK _⟩
 |cons z zs ih=>
  intro is c f l h
  rw[dq]at h ⊢
  refine bN (ME (δ:=bU<|Ga o is (P<|.a z) f l) (r:=r) (z:=z) rfl) λg eg=>?_
  obtain @⟨is1,f1,l1,e1,n1⟩:=UJ (o:=o) (c:=P<|.a z) (r:=r) (cG 0 30) (is++[g.fmod 1024]) (g.fdiv 1024) l<|KI (show is.length+1+30<=9000 by lia)
  rw[aP]at n1
  have n1:is1.length<=is.length+31:=n1
  obtain⟨e2,n2⟩:=ih is1 (P<|.a z) (P<|.a f1) l1 (by lia)
  exact⟨bq ((ax (d:=.a g) (r1:=r) rfl eg).trans<|(KH (by lia)).trans<|rM (r1:=r) (ys:=[.a 30]) (xs:=cG 0 30) rfl rfl e1) e2,by lia⟩
theorem DM(zs:aa aL)(r:Rw): ∃is:aa aL,is.length<=160/\pI [gf zs] r=.c (gf is) r:=by
 have hl:(zs.take 40).length<=40:=by rw[lK];exact rW ..
 obtain @⟨is,c,f,l,e1,n1⟩:=MF (o:=P<|gf zs) (r:=r) (zs.take 40) [] none none none (by rw[List.length_nil];lia)
 refine⟨(is.take 160).reverse,by rw[mR,lK];exact rW ..,Q4 (I:=v8) rfl ?_⟩
 show Yr v7 _ r=_
 refine aK DK ?_
 rw[WN]at e1
 refine(iT (d:=.c []) (r1:=r) rfl rfl).trans<|(nt (d:=.c<|(zs.map DV.a).take 40) (r1:=r) rfl rfl e1).trans ?_
 refine(Ym (d:=.c<|(is.map DV.a).take 160) (r1:=r) rfl rfl rfl).trans<|(MD (xs:=(is.map DV.a).take 160) rfl).trans<|(UI (d:=.c ((is.map DV.a).take 160).reverse) rfl).trans ?_
 unfold gf
 rw[List.map_reverse,WN]
end
theorem abD:Wy=.a (.a 1<|.h 69<|.a (.b 0) .b) za:=rfl
noncomputable def qq:DV:=.c [.d bt,.d bg,.d bk,.d aG]
noncomputable def Ys(kd:aa av)(v:DV)(dims:aa aL)(lists heads:DV):Sl:=
 [none,some (false,.m),some (false,qq),some (false,.d kd),some (false,v),some (false,.c<|dims.map .a),some (false,lists),some (false,heads),none,none,none,none,none,none,none,none,none,none,none,none,none,none,none,none,none,none]
noncomputable def Gb:Prop:= ∀kd v dims lists heads r,iB kd dims lists v-> ∃r',bM (aB F6) [21] QL (Ys kd v dims lists heads) r=.b (.j true) r'
noncomputable def jG:ag aL->DV
 |none=>.f
 |some i=>.a i
noncomputable def qr(n:aL):aa Int:=(bp (n - 0).toNat).map λ(j:av)=>0+(j:aL)
theorem BV(n:aL):cG 0 n=(qr n).map .a:=by unfold cG qr;rw[dj];rfl
theorem zP(h:i∈qr n):0<=i/\i<n:=by
 unfold qr at h
 rw[bb]at h
 obtain⟨j,hj,rfl⟩:=h
 rw[bE]at hj
 exact⟨ba _,bF (f8<|ir _)<|bd (Ha.mp hj)<|f8<|gO n⟩
theorem uS{ct:av->Fn}{elt:Ex}{i:av}{it:It}{ts:n8}{δ:Dl}{r r1:Rw}{xs:aa DV}(p:DV->aM)(g:DV->DV)(hi:Au ct it δ r=.c xs r1)(ht: ∀x∈xs,Y6 ct ts (δ.set i<|some x) r1=.c (p x) r1)
  (he: ∀x∈xs,p x=true->dv ct elt (δ.set i<|some x) r1=.c (g x) r1):dv ct (.v elt i it ts) δ r=.c (.c<|(xs.filter p).map g) r1:=by
 refine DH hi<|(sr (λx=>if p x=true then [g x]else []) [] λx m=>?_).trans ?_
 ·refine aK (bC<|ht x m) ?_
  by_cases hp:p x=true
  ·exact aK (aJ hp)<|aK (aJ hp)<|aK (bC<|he x m hp) rfl
  ·exact aK (aN hp)<|aK (aN hp) rfl
 ·have h: ∀ys:aa DV,ys.flatMap (λx=>if p x=true then [g x]else [])=(ys.filter p).map g:=λys=>by
   induction ys with
   |nil=>rfl
   |cons y ys ih=>
    rw[fK]
    refine aK ih ?_
    rw[xC]
    by_cases hp:p y=true
    ·rw[aJ hp,aJ hp];rfl
    ·rw[aN hp,aN hp];rfl
  rw[h];rfl
theorem BW{ct:av->Fn}{t:Ex}{δ:Dl}{r:Rw}{b:aM}(h:gi ct t δ r=.c b r):Y6 ct (.a t .b) δ r=.c b r:=by
 refine(bC (x:=(gi ct t δ r).uo)<|aE bc.uo h).trans ?_
 cases b<;>rfl
section
variable{r:Rw}{xs P:aa DV}{L:aa (aL×DV)}{k:aM}{o:ag (aM×DV)}{n:aL}
noncomputable abbrev wpT:av->Fn:=aB rK
noncomputable def MG(xs:aa DV)(n:aL)(P:aa DV)(L:aa (aL×DV))(k:aM)(o:ag (aM×DV)):Sl:=[some (false,.c xs),some (false,.a n),some (true,.c P),some (true,.o L),some (false,.j k),o,none]
noncomputable def wj:DV->Sl->Rw->SR:=λx δ r=>bM wpT [2,3] Kx (di δ 5 x) r
theorem pK{ct:av->Fn}{δ:Dl}{r r1:Rw}{a:Ex}{i j:aL}{t:aM}(ha:dv ct a δ r=.c (.a i) r1)(h:decide (i>j)=t):gi ct (.f .Gt a<|.d j) δ r=.c t r1:=dz ha rfl (by rw[←h];rfl)
theorem nu{ct:av->Fn}{δ:Dl}{r r1:Rw}{a:Ex}{i j:aL}{t:aM}(ha:dv ct a δ r=.c (.a i) r1)(h:decide (i<j)=t):gi ct (.f .Lt a<|.d j) δ r=.c t r1:=dz ha rfl (by rw[←h];rfl)
theorem UK(h:P.length<9999):wj .f (MG xs n P L k o) r=.a (MG xs n (P++[.f]) L true<|some (false,.f)) r:=
 (dh rfl<|(ax rfl rfl).trans<|(dk rfl rfl h).trans rfl).trans rfl
theorem Yt(h:P.length<9999)(hz:z>0):wj (.a z) (MG xs n P L k o) r=.a (MG xs n (P++[.a<|z - 1]) L k<|some (false,.a z)) r:=
 (fB rfl<|(dh (pK rfl<|ab hz)<|(dk rfl rfl h).trans rfl).trans rfl).trans rfl
theorem KJ:wj (.a 0) (MG xs n P L k o) r=.a (MG xs n P L k<|some (false,.a 0)) r:=rfl
theorem Rf{z:aL}(hl:L.length<=9998)(hz:z<0):wj (.a z) (MG xs n P L k o) r=.a (MG xs n P (qQ (-z - 1) (.j true) L) k<|some (false,.a z)) r:=by
 have hp:oR (.o L) (.a (-z - 1)) (.j true)=some (.o<|qQ (-z - 1) (.j true) L):=by
  show gL (decide<|L.length<=9998) _=_
  rw[ab hl];rfl
 exact(fB rfl<|(fB (pK rfl<|al (by lia))<|(dh (nu rfl<|ab hz)<|(F7 rfl rfl rfl hp).trans rfl).trans rfl).trans rfl).trans rfl
noncomputable def Rg:ag aL->ag (ag aL)
 |none=>some none
 |some z=>if z>0 then some (some (z - 1)) else none
theorem UL: ∀(zs:aa (ag aL)) (P:aa DV) (k:aM) (o:ag (aM×DV)),P.length+zs.length<9999->(∀z∈zs,∀i,z=some i->0<=i)->
  ∃k' o',dH wj (zs.map jG) (MG xs n P [] k o) r=.a (MG xs n (P++(zs.filterMap Rg).map jG) [] k' o') r:=λzs=>by
 induction zs with
 |nil=>exact λP k o U U=>⟨k,o,by rw[List.filterMap_nil,qX,bI];rfl⟩
 |cons z zs ih=>
  intro P k o hl hz
  replace hl:=dq▸hl
  cases z with
  |none=>
   refine jK (ih (P++[.f]) true (some (false,.f)) (by rw[aP];exact Lj hl) λz m=>hz z<|.tail _ m) λk' o' e=>?_
   refine⟨k',o',bq (UK<|aI (c0 ..) hl)<|e.trans ?_⟩
   rw[eU];rfl
  |some z=>
   have h0:=hz _ (.head _) z rfl
   by_cases h:z>0
   ·refine jK (ih (P++[.a<|z - 1]) k (some (false,.a z)) (by rw[aP];exact Lj hl) λz m=>hz z<|.tail _ m) λk' o' e=>?_
    refine⟨k',o',bq (Yt (aI (c0 ..) hl) h)<|e.trans ?_⟩
    rw[jJ (show Rg (some z)=some (some<|z - 1) from aJ h),eU];rfl
   ·have:z=0:=VA (dS.mp h) h0
    refine aK this ?_
    exact jK (ih P k (some (false,.a 0)) (ju hl) λz m=>hz z<|.tail _ m) λk' o' e=>⟨k',o',bq KJ e⟩
theorem Gc{zs:aa (ag aL)}(hl:zs.length<9999)(hz: ∀z∈zs,∀i,z=some i->0<=i):nr [.c<|zs.map jG,.a n] r=.c (.c<|(zs.filterMap Rg).map jG) r:=by
 refine aU λG9 k9=>?_
 refine jK (UL (r:=r) (xs:=zs.map jG) (n:=n) zs [] false none (by simpa using hl) hz) λk' o' e=>?_
 refine k9 ?_
 refine cg rfl ?_
 refine(iT rfl rfl).trans ?_
 refine(iT rfl rfl).trans ?_
 refine(ax rfl rfl).trans ?_
 refine(nt (b:=Kx) rfl rfl e).trans ?_
 exact cQ rfl<|bR rfl
theorem Rh{κ:Type}[g8 κ]{f:κ}{v:DV}: ∀{es:aa (κ×DV)},(qQ f v es).length<=es.length+1:=by
 intro o0
 induction o0 with
 |nil=>exact bK _
 |cons p9 es ih=>
  obtain⟨g,w⟩:=p9
  show(if g=f then(f,v)::es else(g,w)::qQ f v es).length<=_
  by_cases h:g=f
  ·rw[aJ h];exact Ad _
  ·rw[aN h];exact fy ih
theorem MH{f i:aL}{v:DV}: ∀{es:aa (aL×DV)},((qQ f v es).lookup i).isSome=(decide (i=f)||(es.lookup i).isSome):=by
 intro o0
 induction o0 with
 |nil=>
  show(Jk i [(f,v)]).isSome=_
  rw[cB]
  by_cases h:i=f
  ·subst h;simp
  ·simp[h,cz.mpr h]
 |cons p9 es ih=>
  obtain⟨g,w⟩:=p9
  show(Jk i (if g=f then(f,v)::es else(g,w)::qQ f v es)).isSome=_
  by_cases h:g=f
  ·rw[aJ h]
   refine aK h.symm ?_
   rw[cB,cB]
   by_cases h:i=g
   ·subst h;simp
   ·simp[h,cz.mpr h]
  ·rw[aN h,cB,cB]
   by_cases h2:i=g
   ·subst h2;simp
   ·simp only[cz.mpr h2];exact ih
theorem Ri: ∀(zs:aa aL) (L:aa (aL×DV)) (o:ag (aM×DV)),L.length+zs.length<9998->(∀z∈zs,z<=0)->
  ∃L' o',dH wj (zs.map .a) (MG xs n [] L false o) r=.a (MG xs n [] L' false o') r/\ ∀i:aL,0<=i->(L'.lookup i).isSome=((L.lookup i).isSome||zs.contains (-i - 1)):=λo0=>by
 induction o0 with
 |nil=>exact λL o U U=>⟨L,o,rfl,λi U=>by simp⟩
 |cons z zs ih=>
  intro L o hl hz
  replace hl:=dq▸hl
  by_cases h:z<0
  ·have hpl:=Rh (f:= -z - 1) (v:=.j true) (es:=L)
   refine aU λG9 k9=>?_
   refine jK (ih (qQ (-z - 1) (.j true) L) (some (false,.a z)) (aI (fF hpl _)<|Lj hl) λz m=>hz z<|.tail _ m) λL' o' h9=>cK h9 λe hk=>?_
   refine k9 ?_
   refine⟨L',o',bq (Rf (by lia) h) e,λi hi=>?_⟩
   refine aK (hk i hi)<|aK MH ?_
   rw[nZ]
   have:(i= -z - 1)↔(-i - 1=z):=⟨λh=>h▸nn1,λh=>h▸nn1.symm⟩
   by_cases q: -i - 1=z
   ·rw[ab<|this.mpr q,f4.mpr q];simp
   ·rw[al<|λw=>q<|this.mp w,cz.mpr q];simp
  ·have:z=0:=VA (hz _<|.head _)<|dS.mp h
   refine aK this ?_
   refine aU λG9 k9=>?_
   refine jK (ih L (some (false,.a 0)) (ju (by assumption)) λz m=>hz z<|.tail _ m) λL' o' h9=>cK h9 λe hk=>?_
   refine k9 ?_
   refine⟨L',o',bq KJ e,λi hi=>?_⟩
   rw[hk i hi,nZ,cz.mpr<|Int.ne_of_lt<|bd (Int.sub_lt_self (-i) (by decide))<|Int.neg_nonpos_of_nonneg hi];simp
noncomputable def UM(n:aL)(zs:aa aL):aa Int:=(qr n).filter λi=> !zs.contains (-i - 1)
theorem rQ(p:DV->aM)(q:aL->aM)(is:aa aL)(h: ∀i∈is,p (.a i)=q i):(is.map DV.a).filter p=(is.filter q).map .a:=by
 induction is with
 |nil=>rfl
 |cons i is ih=>
  rw[dK,xC,xC]
  refine aK (h i<|.head _)<|aK (ih λj m=>h j<|.tail _ m) ?_
  split<;>rfl
theorem Yu(hn: -9999<=n/\n<=9999)(hl:zs.length<9998)(hz: ∀z∈zs,z<=0)(hx: ∃z∈zs,z<0):nr [.c<|zs.map .a,.a n] r=.c (.c<|(UM n zs).map .a) r:=by
 refine aU λG9 k9=>?_
 obtain⟨L',o',e,hk⟩:=Ri (r:=r) (xs:=zs.map .a) (n:=n) zs [] none (by simpa using hl) hz
 refine k9 ?_
 have hL:L'≠[]:=λq=>by
  refine aU λG9 k9=>?_
  obtain⟨z,m,h⟩:=hx
  refine k9 ?_
  have:=hk (-z - 1)<|tB<|Int.neg_pos_of_neg h
  rw[q,nn1,List.contains_iff_mem.mpr m]at this
  simp at this
 refine cg rfl ?_
 refine(iT rfl rfl).trans ?_
 refine(iT rfl rfl).trans ?_
 refine(ax rfl rfl).trans ?_
 refine(nt (b:=Kx) rfl rfl e).trans ?_
 refine(aH<|gM rfl<|al (by simpa using hL)).trans ?_
 refine(aH rfl).trans ?_
 refine(aH rfl).trans ?_
 refine bR ?_
 have hr:Au wpT (.b<|.a (.b 1) .b) (b4<|MG (zs.map .a) n [] L' false o') r=.c ((qr n).map .a) r:=by
  rw[←BV];exact qo rfl hn.1 hn.2
 refine(uS (λx=>match x with|.a i=> !(L'.lookup i).isSome|_=>false) id hr (λx m=>?_) λx m U=>?_).trans ?_
 ·rw[bb]at m
  obtain⟨i,hi,abE⟩:=m
  refine aK abE.symm ?_
  exact BW rfl
 ·rw[bb]at m
  obtain⟨i,hi,abF⟩:=m
  refine aK abF ?_
  rfl
 ·rw[rQ _ (λi=> !zs.contains (-i - 1)) _ λi m=>by show(!(L'.lookup i).isSome)=_;rw[hk i (zP m).1];simp,f6];rfl
end
theorem DN(h:NA x xs=some b):Ln x (.c xs)=some b:=by
 show fo none (fo (NA x xs) _)=_
 refine aK h ?_
 rfl
theorem pL{J:Type}{S:aa DV->J->Sl}{aW:DV->Sl->Rw->SR}{r:Rw}(g:DV->aa DV)(hg: ∀x,(g x).length<=1): ∀(xs acc:aa DV) (j:J),(∀x∈xs,∀acc j,acc.length<9999-> ∃j',aW x (S acc j) r=.a (S (acc++g x) j') r)->
  acc.length+xs.length<9999-> ∃j',dH aW xs (S acc j) r=.a (S (acc++xs.flatMap g) j') r:=λo0=>by
 induction o0 with
 |nil=>exact λacc j U U=>⟨j,by show _=SR.a (S (acc++[]) j) r;rw[bI];rfl⟩
 |cons x xs ih=>
  intro acc j h hl
  replace hl:=dq▸hl
  obtain⟨j1,e1⟩:=h x (.head _) acc j<|aI (c0 ..) (by assumption)
  have:=hg x
  obtain⟨j2,e2⟩:=ih (acc++g x) j1 (λy m=>h y<|.tail _ m) (by rw[aP];exact aI (fF (bV this _) _)<|Lj hl)
  exact⟨j2,bq e1<|e2.trans (by rw[fK,eU])⟩
theorem lF(g:DV->DV)(xs:aa DV):xs.flatMap (λx=>[g x])=xs.map g:=by
 induction xs with
 |nil=>rfl
 |cons x xs ih=>rw[fK,ih];rfl
theorem KL(r:Rw)(xs:aa DV):Hb r 8 (.c xs) (.c [])=some xs.isEmpty:=by
 cases xs<;>rfl
theorem KN{ct:av->Fn}{δ:Dl}{r r1:Rw}{a:Ex}{xs:aa DV}{t:aM}(ha:dv ct a δ r=.c (.c xs) r1)(h:xs.isEmpty=t):gi ct (.f .Eq a<|.r .b) δ r=.c t r1:=
 dz (x:=.c xs) (y:=.c []) (r2:=r1) ha rfl ((KL r1 xs).trans (by rw[h]))
theorem KO{ct:av->Fn}{δ:Dl}{r r1:Rw}{a:Ex}{xs:aa DV}{t:aM}(ha:dv ct a δ r=.c (.c xs) r1)(h:(!xs.isEmpty)=t):gi ct (.f .NotEq a<|.r .b) δ r=.c t r1:=
 dz (x:=.c xs) (y:=.c []) (r2:=r1) ha rfl (by show(Hb r1 8 (.c xs)<|.c []).map (!·)=_;rw[KL,←h];rfl)
theorem MI{ct:av->Fn}{δ:Dl}{r r1 r2:Rw}{a b:Ex}{x y:DV}{t:aM}(ha:dv ct a δ r=.c x r1)(hb:dv ct b δ r1=.c y r2)(h:Ln x y=some t):gi ct (.f .In a b) δ r=.c t r2:=dz ha hb h
theorem UN{ct:av->Fn}{δ:Dl}{r r1 r2:Rw}{a b:Ex}{x y:DV}{t:aM}(ha:dv ct a δ r=.c x r1)(hb:dv ct b δ r1=.c y r2)(h:Ln x y=some t):gi ct (.f .NotIn a b) δ r=.c (!t) r2:=dz ha hb (by show(Ln x y).map (!·)=_;rw[h];rfl)
noncomputable def Er:DV:=.g [.a 3,.a 2]
section
variable{r:Rw}
noncomputable def TK(kd:aa av)(xs acc:aa DV)(o:ag (aM×DV)):Sl:=[some (false,.d kd),some (false,.c xs),some (true,.c acc),o]
theorem KP{zs:aa (ag aL)}(hl:zs.length<9999):wa [.d bg,.c<|zs.map jG] r=.c (.c<|zs.map jG) r:=by
 refine cg rfl ?_
 refine(iT rfl rfl).trans ?_
 obtain⟨o',e⟩:=pL (r:=r) (S:=TK bg (zs.map jG)) (aW:=λx δ r=>bM (aB v9) [2] lD (di δ 3 x) r) (λx=>[x]) (λx=>bK _) (zs.map jG) [] none (λx m acc o ha=>by
  rw[bb]at m
  obtain⟨z,_,rfl⟩:=m
  cases z with
  |none=>exact⟨some (false,.f),(dh rfl<|(dk rfl rfl ha).trans rfl).trans rfl⟩
  |some z=>exact⟨some (false,.a z),(fB rfl ((fB rfl ((dk rfl rfl ha).trans rfl)).trans rfl)).trans rfl⟩) (by simpa using hl)
 rw[lF,List.map_id',fO]at e
 exact(nt (b:=lD) rfl rfl e).trans<|bR rfl
theorem UO{zs:aa (ag aL)}(hl:zs.length<9999)(hz: ∀z∈zs,z=none\/z=some 1):wa [.d bk,.c<|zs.map λz=>z.elim .f λU=>Er] r=.c (.c<|zs.map jG) r:=by
 refine cg rfl ?_
 refine(iT rfl rfl).trans ?_
 obtain⟨o',e⟩:=pL (r:=r) (S:=TK bk (zs.map λz=>z.elim .f λU=>Er)) (aW:=λx δ r=>bM (aB v9) [2] lD (di δ 3 x) r) (λx=>[match x with|.f=>.f|_=>.a 1]) (λx=>bK _) (zs.map λz=>z.elim .f λU=>Er) [] none (λx m acc o ha=>by
  rw[bb]at m
  obtain⟨z,_,rfl⟩:=m
  cases z with
  |none=>exact⟨some (false,.f),(dh rfl<|(dk rfl rfl ha).trans rfl).trans rfl⟩
  |some z=>exact⟨some (false,Er),(fB rfl ((dh rfl ((dk rfl rfl ha).trans rfl)).trans rfl)).trans rfl⟩) (by simpa using hl)
 rw[lF,dj,fO]at e
 have hm:zs.map ((λx:DV=>(match x with|.f=>.f|_=>.a 1:DV))∘ λz=>z.elim .f λU=>Er)=zs.map jG:=cr λz m=>by
  rcases hz z m with rfl|rfl<;>rfl
 rw[hm]at e
 exact(nt (b:=lD) rfl rfl e).trans<|bR rfl
noncomputable def MJ(ix:DV)(n:aL)(nm:DV)(kd:aa av)(cuts:aa DV):Sl:=[some (false,ix),some (false,.a n),some (false,nm),some (false,.j false),some (false,.d kd),none,none,none,none,none,some (false,.c cuts),none,none,none,none]
theorem zQ{ct:av->Fn}{δ:Dl}{zs:aa (ag aL)}(Mo:δ[10]?=some (some<|.c<|zs.map jG))(hl:12<δ.length):dv ct (.v (.b 12) 12 (.a<|.b 10)<|.a (.q .And<|.a (.f .IsNot (.b 12) .o)<|.a (.f .Lt (.b 12)<|.d 0) .b) .b) δ r=
  .c (.c ((zs.map jG).filter λx=>match x with|.a i=>decide (i<0)|_=>false)) r:=by
 refine(uS (λx=>match x with|.a i=>decide (i<0)|_=>false) id (zK (cO Mo)) (λx m=>?_) λx m U=>cO (eT hl)).trans (by rw[f6])
 rw[bb]at m
 obtain⟨z,_,rfl⟩:=m
 have hs:(δ.set 12<|some<|jG z)[12]?=some (some<|jG z):=eT hl
 cases z with
 |none=>exact BW (jc (dz (cO hs) rfl rfl))
 |some z=>
  refine BW<|dW (dz (cO hs) rfl rfl) ?_
  show Lq ct .And _ _ r=.c (decide<|z<0) r
  have:=nu (ct:=ct) (δ:=δ.set 12<|some<|jG<|some z) (r:=r) (j:=0) (cO hs) (rfl:decide (z<0)=decide (z<0))
  cases hb:decide (z<0) with
  |true=>rw[hb]at this;exact gC this rfl
  |false=>rw[hb]at this;exact ia this
theorem BX{ix nm:DV}{n:aL}{kd:aa av}{zs:aa (ag aL)}(hz: ∀z∈zs,∀i,z=some i->0<=i):bM (aB jQ) [5,8] Dr (MJ ix n nm kd<|zs.map jG) r=.b (.g [.c<|(zs.filterMap Rg).map jG,.f]) r:=by
 have h0:(zs.map jG).filter (λx=>match x with|.a i=>decide (i<0)|_=>false)=[]:=by
  rw[GI]
  intro x m
  rw[bb]at m
  obtain⟨z,hm,rfl⟩:=m
  cases z with
  |none=>simp[jG]
  |some z=>have:=hz _ hm z rfl;simp[jG];assumption
 refine(ax rfl<|zQ (δ:=bU<|MJ ix n nm kd<|zs.map jG) rfl (show 12<15 by decide)).trans ?_
 refine aK h0 ?_
 refine cQ (KN rfl rfl)<|bR<|lr (aV ?_ rfl) (by simp)
 refine(uS (λx=>match x with|.a i=> !decide (i=0)|_=>true) (λx=>match x with|.a i=>.a (i - 1)|_=>.f) (zK rfl) (λx m=>?_) λx m U=>?_).trans ?_
 ·rw[bb]at m
  obtain⟨z,_,rfl⟩:=m
  cases z<;>exact BW rfl
 ·rw[bb]at m
  obtain⟨z,_,rfl⟩:=m
  cases z with
  |none=>exact jz rfl rfl
  |some z=>exact jb rfl rfl
 ·congr 1
  have go: ∀zs:aa (ag aL),(∀z∈zs,∀i,z=some i->0<=i)->((zs.map jG).filter (λx=>match x with|.a i=> !decide (i=0)|_=>true)).map (λx=>match x with|.a i=>.a (i - 1)|_=>.f)=(zs.filterMap Rg).map jG:=λzs=>by
   induction zs with
   |nil=>intro _;rfl
   |cons z zs ih=>
    intro h
    have ih:=ih λz m=>h z<|.tail _ m
    cases z with
    |none=>exact aE (adR DV.f) ih
    |some z=>
     by_cases q:z=0
     ·subst q;exact ih
     ·have e:Rg (some z)=some (some<|z - 1):=aJ<|Int.lt_iff_le_and_ne.mpr ⟨h _ (.head _) z rfl,Jh q⟩
      rw[jJ e,dK,List.filter_cons_of_pos]
      ·exact aE (adR<|.a<|z - 1) ih
      ·exact aE (!·)<|al q
  exact aK (go zs hz) rfl
theorem UP{ix nm:DV}{n:aL}{kd:aa av}{zs:aa aL}(hn: -9999<=n/\n<=9999)(hl:zs.length<=99)(hz: ∀z∈zs,z<=0)(hx: ∃z∈zs,z<0):bM (aB jQ) [5,8] Dr (MJ ix n nm kd<|zs.map .a) r=.b (.g [.c<|(UM n zs).map .a,.f]) r:=by
 have e0:zs.map DV.a=(zs.map some).map jG:=by rw[dj];rfl
 have h0:((zs.map .a).filter (λx=>match x with|DV.a i=>decide (i<0)|_=>false))≠[]:=λq=>by
  rw[GI]at q
  obtain⟨z,m,h⟩:=hx
  exact q (.a z) (g7 m) (by simpa using h)
 refine(ax rfl<|zQ (δ:=bU<|MJ ix n nm kd<|zs.map .a) (zs:=zs.map some) (by rw[←e0];rfl) (show 12<15 by decide)).trans ?_
 refine aK e0.symm ?_
 refine(aH<|KN rfl (by rw[List.isEmpty_eq_false_iff];exact h0)).trans ?_
 have hno:Ln .f (.c<|zs.map DV.a)=some false:=by
  refine DN ?_
  show gL (((zs.map DV.a).all λy=>(cP y .f).isSome)) _=_
  rw[aF.mpr λy m=>by rw[bb]at m;obtain⟨z,_,rfl⟩:=m;rfl]
  show some (((zs.map DV.a).any λy=>cP y .f==some true))=_
  rw[Ei,wz]
  intro y m
  rw[bb]at m
  obtain⟨z,_,PI⟩:=m
  refine aK PI.symm ?_
  show ¬(some false==some true)=true
  decide
 refine(aH<|MI rfl rfl hno).trans ?_
 have hmx: ∃m:aL,m<=0/\SH .Ll [.c<|zs.map .a]=some (.a m):=by
  have hi: ∀zs:aa aL,tI (zs.map .a)=some zs:=λzs=>by
   induction zs with
   |nil=>rfl
   |cons z zs ih=>show on (some z) (tI<|zs.map .a) _=_;rw[ih];rfl
  cases zs with
  |nil=>obtain⟨z,m,_⟩:=hx;cases m
  |cons z zs=>
   refine⟨zs.foldl max z,?_,?_⟩
   ·have go: ∀(l:aa aL) (a:aL),a<=0->(∀x∈l,x<=0)->l.foldl max a<=0:=λl=>by
     induction l with
     |nil=>intro a h _;exact h
     |cons x l ih=>intro a h hx;exact ih _ (Co.mpr ⟨h,hx x<|.head _⟩) λy m=>hx y<|.tail _ m
    exact go zs z (hz z<|.head _) λx m=>hz x<|.tail _ m
   ·show(tI<|(z::zs).map DV.a).bind WW=_
    rw[hi]
    show gL (decide<|zs.length<=99) _=_
    rw[ab (by rw[dq]at hl;exact ju (by assumption))];rfl
 obtain⟨m,hm,em⟩:=hmx
 refine(aH<|pK (pJ (aV rfl rfl) em)<|al<|dS.mpr (by assumption)).trans ?_
 refine bR<|lr (aV ?_ rfl) (by simp)
 have hr:Au (aB jQ) (.b<|.a (.b 1) .b) (b4<|(MJ ix n nm kd<|zs.map .a).set 11<|some (false,.c<|(zs.map .a).filter (λx=>match x with|DV.a i=>decide (i<0)|_=>false))) r=.c ((qr n).map .a) r:=by
  rw[←BV];exact qo rfl hn.1 hn.2
 refine(uS (λx=>match x with|.a i=> !zs.contains (-i - 1)|_=>false) id hr (λx m=>?_) λx m U=>?_).trans ?_
 ·rw[bb]at m
  obtain⟨i,hi,abG⟩:=m
  refine aK abG.symm ?_
  refine BW<|UN (t:=zs.contains (-i - 1)) rfl rfl ?_
  have:Ln (.a (-i - 1)) (.c<|zs.map .a)=some (zs.contains (-i - 1)):=by
   refine DN ?_
   show gL (((zs.map DV.a).all λy=>(cP y<|.a (-i - 1)).isSome)) _=_
   rw[aF.mpr λy m=>by rw[bb]at m;obtain⟨z,_,rfl⟩:=m;rfl]
   show some (((zs.map DV.a).any λy=>cP y (.a (-i - 1))==some true))=_
   rw[Ei,List.any_map]
   have:((λy=>cP y (.a (-i - 1))==some true)∘ DV.a)=λz=>z==(-i - 1):=by
    funext z
    show(some (decide<|z= -i - 1)==some true)=_
    by_cases q:z= -i - 1
    ·rw[ab q,f4.mpr q];rfl
    ·rw[al q,cz.mpr q];rfl
   refine aK this ?_
   simp only[List.contains_eq_any_beq]
   congr 1
   funext z
   exact Bool.beq_comm ..
  exact this
 ·rw[bb]at m
  obtain⟨i,hi,abH⟩:=m
  refine aK abH ?_
  rfl
 ·rw[rQ _ (λi=> !zs.contains (-i - 1)) _ λi m=>rfl,f6];rfl
end
noncomputable def wW:DV:=.n 2 [(0,.d sk),(2,.f)]
noncomputable def t5:aa DV:=[.f,.d [97],.d [98],.d [99],.d [122]]
inductive l4:DV->Prop
 |DO:l4 wW
 |sN (zs:aa aL) (hl:zs.length<=3) (h:(∀z∈zs,0<=z)\/ ∀z∈zs,z<=0):l4 (aS (.d bg) (zs.map .a) .f)
 |lgl (xs:aa DV) (hl:xs.length<=3) (h: ∀x∈xs,x=.a 1\/x=.a 0\/x=.f):l4 (aS (.d bt) xs .f)
 |Lm (xs:aa DV) (hl:xs.length<=3) (h: ∀x∈xs,x∈t5):l4 (aS (.d aG) xs .f)
 |dbl (zs:aa (ag aL)) (hl:zs.length<=3) (h: ∀z∈zs,z=none\/z=some 1):l4 (aS (.d bk) (zs.map λz=>z.elim .f λU=>Er) .f)
noncomputable def oJ(p:DV):Prop:=p=.f\/ ∃i:aL,0<=i/\p=.a i
noncomputable def BY(ix:DV)(e:aL)(nm:DV):Prop:= ∃ps:aa DV,ps.length<=4/\(∀p∈ps,oJ p)/\(∀r,oB [ix,.a e,nm,.j false] r=.c (.g [.c ps,.f]) r)/\ ∀r,sn [ix,.a e,nm,.j false] r=.c (.g [.c ps,.f]) r
section
variable{e:aL}{nm:DV}
theorem AV(he:1<=e/\e<=4):BY wW e nm:=by
 have h:e=1\/e=2\/e=3\/e=4:=Zx (by assumption)
 refine⟨cG 0 e,?_,λp m=>?_,?_⟩
 ·rcases h with rfl|rfl|rfl|rfl<;>decide
 ·unfold cG at m
  rw[bb]at m
  obtain⟨j,_,rfl⟩:=m
  exact .inr ⟨_,ba _,rfl⟩
 ·rcases h with rfl|rfl|rfl|rfl<;>exact⟨λr=>rfl,λr=>rfl⟩
theorem BZ{zs:aa (ag aL)}(hz: ∀z∈zs,∀i,z=some i->0<=i): ∀p∈(zs.filterMap Rg).map jG,oJ p:=λp m=>by
 rw[bb]at m
 obtain⟨z,m,rfl⟩:=m
 rw[Nv]at m
 obtain⟨y,m,hy⟩:=m
 cases y with
 |none=>cases hy;exact .inl rfl
 |some y=>
  replace hy:(if y>0 then some (some<|y - 1) else none)=some z:=hy
  by_cases h:y>0
  ·rw[aJ h]at hy;cases hy;exact .inr ⟨y - 1,tB h,rfl⟩
  ·rw[aN h]at hy;cases hy
theorem s7{α β:Type}(f:α->ag β)(l:aa α):(l.filterMap f).length<=l.length:=Ek ..
theorem wk(hk:kd=bg\/kd=bk)(hw:nq [aS (.d kd) xs .f] r=.c (.c ws) r)(h:nr [.c ws,.a e] r=.c (.c ps) r):
  oB [aS (.d kd) xs .f,.a e,nm,.j false] r=.c (.g [.c ps,.f]) r:=by
 have hl:dv (aB wS) (.h 48<|.a (.h 46<|.a (.b 0) .b)<|.a (.b 1) .b) (b4 [some (false,aS (.d kd) xs .f),some (false,.a e),some (false,nm),some (false,.j false),some (false,.d kd)]) r=.c (.c ps) r:=
  bu (aV (bu (aV (cO rfl) rfl) hw)<|aV (cO rfl) rfl) h
 rcases hk with rfl|rfl
 ·refine cg rfl<|(ax rfl rfl).trans<|(aH rfl).trans<|(aH rfl).trans<|(aH rfl).trans<|cQ rfl<|bR<|lr (aV hl rfl) (by simp)
 ·refine cg rfl<|(ax rfl rfl).trans<|(aH rfl).trans<|(aH rfl).trans<|(aH rfl).trans<|cQ rfl<|bR<|lr (aV hl rfl) (by simp)
theorem wl(hk:kd=bg\/kd=bk)(hw:wa [.d kd,.c xs] r=.c (.c ws) r)(h:bM (aB jQ) [5,8] Dr (MJ (aS (.d kd) xs .f) e nm kd ws) r=.b (.g [.c ps,.f]) r):
  sn [aS (.d kd) xs .f,.a e,nm,.j false] r=.c (.g [.c ps,.f]) r:=by
 have hc:dv (aB jQ) (.h 2<|.a (.b 4)<|.a (.l (.b 0) 1) .b) (bU [some (false,aS (.d kd) xs .f),some (false,.a e),some (false,nm),some (false,.j false),some (false,.d kd),none,none,none,none,none,none,none,none,none,none]) r=.c (.c ws) r:=
  bu (aV (cO rfl)<|aV rfl rfl) hw
 rcases hk with rfl|rfl
 ·refine cg rfl<|(ax rfl rfl).trans<|(aH rfl).trans<|(aH rfl).trans<|(aH rfl).trans<|(aH rfl).trans<|(aH rfl).trans<|(ax rfl hc).trans h
 ·refine cg rfl<|(ax rfl rfl).trans<|(aH rfl).trans<|(aH rfl).trans<|(aH rfl).trans<|(aH rfl).trans<|(aH rfl).trans<|(ax rfl hc).trans h
theorem II{zs:aa aL}(he:1<=e/\e<=4)(hl:zs.length<=3)(h:(∀z∈zs,0<=z)\/ ∀z∈zs,z<=0):BY (aS (.d bg) (zs.map .a) .f) e nm:=by
 by_cases hx: ∃z∈zs,z<0
 ·have hz: ∀z∈zs,z<=0:=h.resolve_left λq=>by obtain⟨z,m,w⟩:=hx;exact absurd (q z m)<|vu.mpr w
  refine⟨(UM e zs).map .a,?_,λp m=>?_,λr=>wk (.inl rfl) rfl (Yu (⟨by lia,ay (mD.right (by assumption)) (by decide)⟩) (aI (by assumption) (by decide)) hz hx),λr=>wl (.inl rfl) ?_<|UP (⟨by lia,ay (mD.right (by assumption)) (by decide)⟩) (ao (by assumption) (by decide)) hz hx⟩
  ·rw[aw]
   have:(UM e zs).length<=(qr e).length:=List.length_filter_le ..
   unfold qr at this
   rw[aw,dR]at this
   exact ao this<|xc.mpr<|ay (Aq _ (by decide)) he.2
  ·rw[bb]at m
   obtain⟨i,m,rfl⟩:=m
   exact .inr ⟨i,(zP (Td.mp m).1).1,rfl⟩
  ·have:=KP (r:=r) (zs:=zs.map some) (by rw[aw];exact aI (by assumption) (by decide))
   rw[dj]at this
   exact this
 ·have hz: ∀z∈zs.map some,∀i,z=some i->0<=i:=λz m i q=>by
   rw[bb]at m
   obtain⟨y,m,rfl⟩:=m
   cases q
   exact dS.mp λw=>hx ⟨i,m,w⟩
  have e0:zs.map DV.a=(zs.map some).map jG:=by rw[dj];rfl
  refine⟨((zs.map some).filterMap Rg).map jG,?_,BZ hz,λr=>wk (.inl rfl) rfl ?_,λr=>wl (.inl rfl) ?_<|BX hz⟩
  ·rw[aw]
   have:=s7 Rg<|zs.map some
   rw[aw]at this
   exact ao this<|ao hl (by decide)
  ·rw[e0];exact Gc (by rw[aw];exact aI (by assumption) (by decide)) hz
  ·rw[e0];exact KP (by rw[aw];exact aI (by assumption) (by decide))
theorem MK{zs:aa (ag aL)}{r:Rw}(hl:zs.length<9999)(hz: ∀z∈zs,z=none\/z=some 1):nq [aS (.d bk) (zs.map λz=>z.elim .f λU=>Er) .f] r=.c (.c<|zs.map jG) r:=by
 refine cg rfl ?_
 refine(aH rfl).trans ?_
 refine(iT rfl rfl).trans ?_
 obtain⟨o',e⟩:=pL (r:=r) (S:=λacc (o:ag (aM×DV))=>[some (false,aS (.d bk) (zs.map λz=>z.elim .f λU=>Er) .f),some (true,.c acc),o]) (aW:=λx δ r=>bM (aB nk) [1] iP (di δ 2 x) r) (λx=>[match x with|.f=>.f|_=>.a 1]) (λx=>bK _) (zs.map λz=>z.elim .f λU=>Er) [] none (λx m acc o ha=>by
  rw[bb]at m
  obtain⟨z,_,rfl⟩:=m
  cases z with
  |none=>exact⟨some (false,.f),(dh rfl<|(dk rfl rfl ha).trans rfl).trans rfl⟩
  |some z=>exact⟨some (false,Er),(fB rfl ((dk rfl rfl ha).trans rfl)).trans rfl⟩) (by simpa using hl)
 rw[lF,dj,fO]at e
 have hm:zs.map ((λx:DV=>(match x with|.f=>.f|_=>.a 1:DV))∘ λz=>z.elim .f λU=>Er)=zs.map jG:=cr λz m=>by
  rcases hz z m with rfl|rfl<;>rfl
 rw[hm]at e
 exact(nt (b:=iP) rfl rfl e).trans<|bR rfl
theorem ML{zs:aa (ag aL)}(hl:zs.length<=3)(h: ∀z∈zs,z=none\/z=some 1):BY (aS (.d bk) (zs.map λz=>z.elim .f λU=>Er) .f) e nm:=by
 have hz: ∀z∈zs,∀i,z=some i->0<=i:=λz m i q=>by
  rcases h z m with w|w<;>rw[w]at q<;>cases q;decide
 refine⟨(zs.filterMap Rg).map jG,?_,BZ hz,λr=>wk (.inr rfl) (MK (aI (by assumption) (by decide)) h) (Gc (aI (by assumption) (by decide)) hz),λr=>wl (.inr rfl) (UO (aI (by assumption) (by decide)) h)<|BX hz⟩
 rw[aw]
 exact ao (s7 Rg zs)<|ao (by assumption) (by decide)
noncomputable def IJ(c:aa DV):av->aa (aa DV)
 |0=>[[]]
 |n+1=>c.flatMap λa=>(IJ c n).map (a:: ·)
theorem IK(h: ∀x∈xs,x∈c):xs∈IJ c xs.length:=by
 induction xs with
 |nil=>exact .head _
 |cons x xs ih=>exact lJ.mpr ⟨x,h x (.head _),bb.mpr ⟨xs,ih λy m=>h y (.tail _ m),rfl⟩⟩
theorem Rj{α β:Type}{l:aa α}{f g:α->β}(h:l.map f=l.map g){a:α}(m:a∈l):f a=g a:=NV.mp h a m
noncomputable def Rk(xs:aa DV)(e:av):aa DV:=
 if xs.isEmpty=true then []else(bp e).filterMap λi=>(xs[i%xs.length]?).bind λx=>if cA x=true then some .f else if x.cZ==some 1 then some (.a<|0+(i:aL)) else none
noncomputable def B0:aa (aa DV×av):=(bp 4).flatMap λn=>(IJ [.a 1,.a 0,.f] n).flatMap λxs=>([1,2,3,4].filter λe=>decide<|n<=e).map λe=>(xs,e)
noncomputable abbrev abI(xs:aa DV):DV:=aS (.d bt) xs .f
theorem Yv(nm:DV)(r:Rw):(B0.map λp=>oB [abI p.1,.a p.2,nm,.j false] r)=B0.map λp=>.c (.g [.c<|Rk p.1 p.2,.f]) r:=by kernel_rfl
theorem Yw(nm:DV)(r:Rw):(B0.map λp=>sn [abI p.1,.a p.2,nm,.j false] r)=B0.map λp=>.c (.g [.c<|Rk p.1 p.2,.f]) r:=by kernel_rfl
noncomputable def Rl(p:DV):Bool:=cA p||(p.cZ.map λi=>decide<|0<=i)==some true
theorem MM(h:Rl p=true):oJ p:=by
 cases p with
 |f=>exact .inl rfl
 |a i=>exact .inr ⟨i,ah (am (eq_of_beq (h:(some (decide (0<=i))==some true)=true))),rfl⟩
 |_=>cases h
theorem abJ:(B0.all λp=>decide ((Rk p.1 p.2).length<=4)&&(Rk p.1 p.2).all Rl)=true:=by kernel_rfl
theorem MN{xs:aa DV}(he:1<=e/\e<=4)(hl:xs.length<=3)(hle:(xs.length:aL)<=e)(h: ∀x∈xs,x=.a 1\/x=.a 0\/x=.f):BY (aS (.d bt) xs .f) e nm:=by
 obtain⟨k,rfl⟩:=kC (a:=e)<|bz<|mD.left (by assumption)
 have hk:k∈[1,2,3,4]:=by
  have:=(by decide: ∀k<5,1<=k->k=1\/k=2\/k=3\/k=4) k (d8.mp<|mq he.2)<|dM.mp he.1
  rcases this with rfl|rfl|rfl|rfl<;>decide
 have m:(xs,k)∈B0:=lJ.mpr ⟨xs.length,bE.mpr (aI (by assumption) (by decide)),lJ.mpr ⟨xs,IK λx m=>by
  rcases h x m with rfl|rfl|rfl
  ·exact .head _
  ·exact .tail _<|.head _
  ·exact .tail _ (.tail _ (.head _)),bb.mpr ⟨k,Td.mpr ⟨hk,ab (by lia)⟩,rfl⟩⟩⟩
 obtain⟨o1,o2⟩:=aT<|aF.mp abJ _ m
 have q1:=λr=>Rj (Yv nm r) m
 have q2:=λr=>Rj (Yw nm r) m
 generalize Rk (xs,k).1 (xs,k).2=ps at o1 o2 q1 q2
 exact⟨ps,ah o1,λp mp=>MM<|aF.mp o2 p mp,q1,q2⟩
end
noncomputable def SP(nm x:DV):DV:=
 (nm.bW.bind λls=>x.fH.bind λl=>(ls.findIdx? λy=>cP y (.d l)==some true).map λ(j:av)=>DV.a j).getD .f
noncomputable def t6:aa DV:=[.f,.c<|gD 1,.c<|gD 2,.c<|gD 3,.c<|gD 4]
noncomputable def tbl(nm:DV):aa (aa av×DV):=
 match nm with
 |.c ls=>(ls.zip (cG 0 ls.length)).filterMap λp=>match p.1 with
  |.d l=>some (l,p.2)
  |_=>none
 |_=>[]
theorem t7{P:DV->Prop}(h0:P .f)(h1:P (.c<|gD 1))(h2:P (.c<|gD 2))(h3:P (.c<|gD 3))(h4:P (.c<|gD 4)): ∀nm∈t6,P nm:=by
 intro nm h
 simp only[t6,a0,gh,sB]at h
 rcases h with rfl|rfl|rfl|rfl|rfl<;>assumption
theorem zR{P:DV->Prop}(h0:P .f)(h1:P (.d [97]))(h2:P (.d [98]))(h3:P (.d [99]))(h4:P (.d [122])): ∀x∈t5,P x:=by
 intro x h
 simp only[t5,a0,gh,sB]at h
 rcases h with rfl|rfl|rfl|rfl|rfl<;>assumption
section
variable{r:Rw}
theorem IL: ∀nm∈t6,∀r,zu [nm] r=.c (.h<|tbl nm) r:=
 t7 (λr=>by kernel_rfl) (λr=>by kernel_rfl) (λr=>by kernel_rfl) (λr=>by kernel_rfl) (λr=>by kernel_rfl)
noncomputable def npS(its:aa DV)(nm:DV)(acc:aa DV)(o:ag (aM×DV)):Sl:=[some (false,.c its),some (false,nm),some (false,.h<|tbl nm),some (true,.c acc),o]
theorem abL: ∀nm∈t6,∀x∈t5,(Ln x (.h<|tbl nm)=some true/\cA x=false/\xg (.h<|tbl nm) x=some (SP nm x))\/(SP nm x=.f/\(x=.f\/Ln x (.h<|tbl nm)=some false)):=by
 refine t7 ?_ ?_ ?_ ?_ ?_<;>refine zR ?_ ?_ ?_ ?_ ?_
 all_goals first|exact .inr ⟨rfl,.inl rfl⟩|exact .inr ⟨rfl,.inr rfl⟩|exact .inl ⟨rfl,rfl,rfl⟩
theorem UQ(hn:nm∈t6)(hx:x∈t5)(ha:acc.length<9999):
  ∃o',bM (aB oZ) [3] jy (di (npS its nm acc o) 4 x) r=.a (npS its nm (acc++[SP nm x]) o') r:=by
 refine⟨some (false,x),?_⟩
 rcases abL nm hn x hx with⟨h1,h2,h3⟩|⟨h1,h2⟩
 ·refine(dh (dW (dz (x:=x) (y:=.f) (r1:=r) (r2:=r) rfl rfl (by show some (!cA x)=_;rw[h2];rfl))<|gC (MI (r1:=r) (r2:=r) rfl rfl h1) rfl)<|(dk rfl (ew (r1:=r) (r2:=r) rfl rfl h3) ha).trans rfl).trans rfl
 ·refine aK h1 ?_
  rcases h2 with rfl|h2
  ·exact(fB rfl<|(dk rfl rfl ha).trans rfl).trans rfl
  ·cases hx0:cA x with
   |true=>cases x<;>first|(cases hx0;done)|exact(fB rfl<|(dk rfl rfl ha).trans rfl).trans rfl
   |false=>exact(fB (dW (dz (x:=x) (y:=.f) (r1:=r) (r2:=r) rfl rfl (by show some (!cA x)=_;rw[hx0];rfl))<|ia<|MI (r1:=r) (r2:=r) rfl rfl h2)<|(dk rfl rfl ha).trans rfl).trans rfl
theorem UR(hn:nm∈t6)(hl:xs.length<9999)(hx: ∀x∈xs,x∈t5):AR [.c xs,nm] r=.c (.c<|xs.map<|SP nm) r:=by
 refine cg rfl ?_
 refine(ax rfl<|bu (aV rfl rfl)<|IL nm hn r).trans ?_
 refine(iT rfl rfl).trans ?_
 refine bN (pL (r:=r) (S:=npS xs nm) (aW:=λx δ r=>bM (aB oZ) [3] jy (di δ 4 x) r) (λx=>[SP nm x]) (λx=>bK _) xs [] none (λx m acc o ha=>UQ hn (hx x m) ha) (by simpa using hl)) λo' e=>?_
 rw[lF,fO]at e
 exact(nt (b:=jy) rfl rfl e).trans<|bR rfl
noncomputable def dcS(ix:DV)(e:aL)(nm:DV)(acc:aa DV)(j:ag (aM×DV)×ag (aM×DV)):Sl:=[some (false,ix),some (false,.a e),some (false,nm),some (false,.j false),some (false,.d aG),some (true,.c acc),none,j.1,some (true,.c []),j.2,none,none,none,none,none]
theorem abM: ∀nm∈t6,∀x∈t5,(∃ls,nm=.c ls/\Ln x nm=some true/\ ∃l,x=.d l/\l≠[]/\ ∀r,EG .qx nm [x] r=.c (SP nm x) r)\/(SP nm x=.f/\(x=.f\/(∃l,x=.d l/\l≠[])/\(nm=.f\/ ∃ls,nm=.c ls/\Ln x nm=some false))):=by
 refine t7 ?_ ?_ ?_ ?_ ?_<;>refine zR ?_ ?_ ?_ ?_ ?_
 all_goals first
  |exact .inr ⟨rfl,.inl rfl⟩
  |exact .inr ⟨rfl,.inr ⟨⟨_,rfl,by decide⟩,.inl rfl⟩⟩
  |exact .inr ⟨rfl,.inr ⟨⟨_,rfl,by decide⟩,.inr ⟨_,rfl,rfl⟩⟩⟩
  |exact .inl ⟨_,rfl,rfl,_,rfl,by decide,λr=>rfl⟩
theorem US(hn:nm∈t6)(hx:x∈t5)(ha:acc.length<9999):
  ∃j',bM (aB jQ) [5,8] oy (di (dcS ix e nm acc j) 7 x) r=.a (dcS ix e nm (acc++[SP nm x]) j') r:=by
 rcases abM nm hn x hx with⟨ls,rfl,h1,l,rfl,hl,h2⟩|⟨h1,h2⟩
 ·refine⟨(some (false,.d l),some (false,.j true)),?_⟩
  refine(ax (d:=.j true) (r1:=r) rfl ?_).trans ?_
  ·have:(DV.j<|!decide (l=[]))=.j true:=by rw[al hl];rfl
   rw[←this];rfl
  ·exact(dh (dW rfl<|gC rfl<|gC (MI rfl rfl h1) rfl)<|(dk rfl (Yp (x:=.c ls) (vs:=[.d l]) (r1:=r) (r2:=r) rfl rfl rfl<|h2 r) ha).trans rfl).trans rfl
 ·refine aK h1 ?_
  rcases h2 with rfl|⟨⟨l,rfl,hl⟩,h2⟩
  ·exact⟨(some (false,.f),some (false,.j false)),(ax rfl rfl).trans<|(fB rfl<|(dh rfl<|(dk rfl rfl ha).trans rfl).trans rfl).trans rfl⟩
  ·refine⟨(some (false,.d l),some (false,.j true)),?_⟩
   refine(ax (d:=.j true) (r1:=r) rfl ?_).trans ?_
   ·have:(DV.j<|!decide (l=[]))=.j true:=by rw[al hl];rfl
    rw[←this];rfl
   ·rcases h2 with rfl|⟨ls,rfl,h2⟩
    ·exact(fB rfl<|(dh rfl<|(dk rfl rfl ha).trans rfl).trans rfl).trans rfl
    ·exact(fB (dW rfl<|gC rfl<|ia<|MI rfl rfl h2)<|(dh rfl<|(dk rfl rfl ha).trans rfl).trans rfl).trans rfl
theorem MO(hn:nm∈t6)(hl:xs.length<=3)(hx: ∀x∈xs,x∈t5):BY (aS (.d aG) xs .f) e nm:=by
 refine⟨xs.map<|SP nm,by rw[aw];exact ao (by assumption) (by decide),λp m=>?_,λr=>?_,λr=>?_⟩
 ·rw[bb]at m
  obtain⟨x,m,rfl⟩:=m
  cases q:(nm.bW.bind λls=>x.fH.bind λl=>(ls.findIdx? λy=>cP y (.d l)==some true).map λ(j:av)=>DV.a j) with
  |none=>exact .inl<|aE (λo=>GH o DV.f) q
  |some d=>
   obtain⟨ls,_,q2⟩:=eA.mp q
   obtain⟨l,_,q2⟩:=eA.mp q2
   obtain⟨j,_,rfl⟩:=qu.mp q2
   exact .inr ⟨_,ba j,aE (λo=>GH o DV.f) q⟩
 ·exact cg rfl<|(ax rfl rfl).trans<|(aH rfl).trans<|(aH rfl).trans<|(aH rfl).trans<|(aH rfl).trans<|cQ rfl<|(aH rfl).trans<|bR<|lr (aV (bu (aV rfl rfl)<|UR hn (aI (by assumption) (by decide)) hx) rfl) (by simp)
 ·refine cg rfl<|(ax rfl rfl).trans<|(aH rfl).trans<|(aH rfl).trans<|(aH rfl).trans<|(aH rfl).trans<|cQ rfl ?_
  refine(iT rfl rfl).trans ?_
  refine(iT rfl rfl).trans ?_
  obtain⟨j',ee⟩:=pL (r:=r) (S:=dcS (aS (.d aG) xs .f) e nm) (aW:=λx δ r=>bM (aB jQ) [5,8] oy (di δ 7 x) r) (λx=>[SP nm x]) (λx=>bK _) xs [] (none,none) (λx m acc o ha=>US hn (hx x m) ha) (by simp;exact aI (by assumption) (by decide))
  rw[lF,fO]at ee
  exact(nt (b:=oy) rfl rfl ee).trans<|bR rfl
theorem abN(h:l4 ix)(he:1<=e/\e<=4)(hn:nm∈t6)(hlg: ∀xs,ix=aS (.d bt) xs .f->(xs.length:aL)<=e):BY ix e nm:=by
 cases h with
 |DO=>exact AV he
 |sN zs hl h=>exact II he hl h
 |lgl xs hl h=>exact MN he hl (hlg xs rfl) h
 |Lm xs hl h=>exact MO hn hl h
 |dbl zs hl h=>exact ML hl h
end
noncomputable def xm(ch:aM)(e:aL)(p:DV):Bool:=
 match p with
 |.f=>ch
 |.a i=>decide (i>=e)
 |_=>false
section
variable{r:Rw}{ix nm:DV}{e:aL}{kd:aa av}
theorem wm{ct:av->Fn}{δ:Dl}{i:av}{l:aa av}{t:aM}(h0:δ[i]?=some (some ix))(hk:sL ix 0=some (.d kd))(ht:decide (kd=l)=t)(hl:l.length<=9999):gi ct (.f .Eq (.l (.b i) 0)<|.g l) δ r=.c t r:=by
 exact dz (x:=.d kd) (y:=.d l) (r1:=r) (r2:=r) (zG (cO h0) hk) (abB hl) (by rw[←ht];rfl)
noncomputable def Zh(ix:DV)(e:aL)(nm:DV)(ps:aa DV)(a b:ag (aM×DV)):Sl:=[some (false,ix),some (false,.a e),some (false,nm),some (false,.c ps),a,b]
theorem UT{ps:aa DV}(hk:sL ix 0=some (.d kd)){j:av}{p:DV}(hp:ps[j]?=some p)(ho:oJ p)(a b:ag (aM×DV)):
  bM (aB wc) [] rv (di (Zh ix e nm ps a b) 4<|.a<|0+(j:aL)) r=if xm (decide<|kd=aG) e p=true then .c wN r else .a (Zh ix e nm ps (some (false,.a<|0+(j:aL)))<|some (false,p)) r:=by
 have hi:xg (.c ps) (.a<|0+(j:aL))=some p:=by
  refine Q8 ?_
  show(if 0<=0+(j:aL) then ps[(0+(j:aL)).toNat]? else if 0<=0+(j:aL)+ps.length then ps[(0+(j:aL)+ps.length).toNat]? else none)=_
  exact aK (aJ<|tF (fa 0)<|ba j)<|aK (show(0+(j:aL)).toNat=j by rw[ir];rfl)<|aK hp rfl
 refine(ax rfl<|ew (r1:=r) (r2:=r) rfl rfl hi).trans ?_
 rcases ho with rfl|⟨i,h0,rfl⟩
 ·by_cases hc:kd=aG
  ·rw[aJ (by show decide _=true;exact ab hc)]
   refine lq (r1:=r) (dz rfl rfl rfl) ?_
   refine lq (r1:=r) (wm (ix:=ix) (kd:=kd) rfl hk (ab hc) (by decide)) ?_
   exact oG rfl
  ·rw[aN (by show ¬decide _=true;rw[al hc];decide)]
   exact(dh (dz rfl rfl rfl)<|(aH<|wm (ix:=ix) (kd:=kd) rfl hk (al hc) (by decide)).trans rfl).trans rfl
 ·by_cases hc:i>=e
  ·rw[aJ (by show decide _=true;exact ab hc)]
   refine UE (r1:=r) (dz rfl rfl rfl) ?_
   exact lq (dz (x:=.a i) (y:=.a e) (r1:=r) (r2:=r) rfl rfl (by show some (decide<|i>=e)=_;rw[ab hc]))<|oG rfl
  ·rw[aN (by show ¬decide _=true;rw[al hc];decide)]
   exact(fB (dz rfl rfl rfl)<|(aH<|dz (x:=.a i) (y:=.a e) (r1:=r) (r2:=r) rfl rfl (by show some (decide<|i>=e)=_;rw[al hc])).trans rfl).trans rfl
theorem UU{ps:aa DV}(hk:sL ix 0=some (.d kd))(ho: ∀p∈ps,oJ p): ∀(js:aa av) (a b:ag (aM×DV)),(∀j∈js,j<ps.length)->
  (js.any (λj=>xm (decide<|kd=aG) e<|ps[j]?.getD .f)=true->dH (λx δ r=>bM (aB wc) [] rv (di δ 4 x) r) (js.map λ(j:av)=>.a<|0+(j:aL)) (Zh ix e nm ps a b) r=.c wN r)/\
  (js.any (λj=>xm (decide<|kd=aG) e<|ps[j]?.getD .f)=false-> ∃a' b',dH (λx δ r=>bM (aB wc) [] rv (di δ 4 x) r) (js.map λ(j:av)=>.a<|0+(j:aL)) (Zh ix e nm ps a b) r=.a (Zh ix e nm ps a' b') r):=λo0=>by
 induction o0 with
 |nil=>exact λa b U=>⟨λh=>(by cases h),λU=>⟨a,b,rfl⟩⟩
 |cons j js ih=>
  intro a b hj
  have hlt:=hj j<|.head _
  have hp:ps[j]?=some ps[j]:=aC hlt
  have st:=UT (r:=r) (nm:=nm) (e:=e) hk hp (ho _<|hG hlt) a b
  have ih:=ih (some (false,.a<|0+(j:aL))) (some (false,ps[j])) λk m=>hj k<|.tail _ m
  rw[f7]
  refine aK hp ?_
  simp only[Option.getD_some]
  cases hb:xm (decide<|kd=aG) e ps[j]with
  |true=>
   rw[hb,aJ rfl]at st
   refine⟨λU=>?_,λh=>(by cases h)⟩
   rw[dK]
   exact zF st
  |false=>
   rw[hb,aN (by decide)]at st
   rw[El]
   exact⟨λh=>bq st<|ih.1 h,λh=>let⟨a',b',q⟩:=ih.2 h;⟨a',b',bq st q⟩⟩
theorem MP(f:DV->aM)(ps:aa DV):((bp ps.length).any λj=>f<|ps[j]?.getD .f)=ps.any f:=by
 rw[Th,xD,xD]
 constructor
 ·rintro⟨j,m,h⟩
  rw[bE]at m
  rw[aC m]at h
  exact⟨_,hG m,h⟩
 ·rintro⟨p,m,h⟩
  obtain⟨j,hj,rfl⟩:=l7.mp m
  exact⟨j,bE.mpr hj,by rw[aC hj];exact h⟩
noncomputable def WA(e:aL)(kd:aa av)(cn:aL)(ps:aa DV):WP (aa av) (aa DV):=
 if kd=bt/\cn>e then .error UA else if ps.any (xm (decide<|kd=aG) e)=true then .error wN else .ok ps
noncomputable def Rm(R:WP (aa av) (aa DV))(r:Rw):bc DV:=
 match R with
 |.ok ps=>.c (.c ps) r
 |.error m=>.e m r
end
structure zS(ix:DV)(kd:aa av)(cn:aL):Prop where
 k:sL ix 0=some (.d kd)
 x:kd=bt-> ∃xs,sL ix 1=some (.c xs)/\(xs.length:aL)=cn
theorem l4.pk(h:l4 ix): ∃kd cn,zS ix kd cn/\ ∀xs,ix=aS (.d bt) xs .f->kd=bt/\(xs.length:aL)=cn:=by
 cases h with
 |DO=>exact⟨_,0,⟨rfl,λh=>absurd h (by decide)⟩,λxs h=>by cases h⟩
 |sN zs hl h=>exact⟨_,_,⟨rfl,λh=>⟨_,rfl,rfl⟩⟩,λxs h=>by cases h⟩
 |lgl xs hl h=>exact⟨_,_,⟨rfl,λh=>⟨_,rfl,rfl⟩⟩,λxs h=>by cases h;exact⟨rfl,rfl⟩⟩
 |Lm xs hl h=>exact⟨_,_,⟨rfl,λh=>⟨_,rfl,rfl⟩⟩,λxs h=>by cases h⟩
 |dbl zs hl h=>exact⟨_,_,⟨rfl,λh=>⟨_,rfl,rfl⟩⟩,λxs h=>by cases h⟩
section
variable{r:Rw}{ix nm:DV}{e:aL}{kd:aa av}{cn:aL}
theorem xP{ct:av->Fn}{δ:Dl}{i j:av}(V:zS ix kd cn)(h0:δ[i]?=some (some ix))(h1:δ[j]?=some (some<|.a e)){t:aM}(ht:decide (kd=bt/\cn>e)=t):
  gi ct (.q .And<|.a (.f .Eq (.l (.b i) 0)<|.g bt)<|.a (.f .Gt (.k .cn<|.a (.l (.b i) 1) .b)<|.b j) .b) δ r=.c t r:=by
 by_cases hk:kd=bt
 ·refine bN (V.x hk) λxs h9=>cK h9 λhx hl=>?_
  have hlen:dv ct (.k .cn<|.a (.l (.b i) 1) .b) δ r=.c (.a cn) r:=pJ (aV (x:=.c xs) (r1:=r) (zG (cO h0) hx) rfl) (by rw[←hl];rfl)
  refine dW (wm (kd:=kd) h0 V.k (ab hk) (by decide)) ?_
  have hc:gi ct (.f .Gt (.k .cn<|.a (.l (.b i) 1) .b)<|.b j) δ r=.c (decide<|cn>e) r:=dz hlen (cO h1) rfl
  by_cases hg:cn>e
  ·rw[ab hg]at hc
   refine aK ht.symm<|aK (ab ⟨hk,hg⟩) ?_
   exact gC hc rfl
  ·rw[al hg]at hc
   refine aK ht.symm<|aK (al λq=>hg q.2) ?_
   exact ia hc
 ·refine aK ht.symm<|aK (al λq=>hk q.1) ?_
  exact jc<|wm (kd:=kd) h0 V.k (al hk) (by decide)
theorem Ge(V:zS ix kd cn)(hl:ps.length<=4)(ho: ∀p∈ps,oJ p)(hp: ¬(kd=bt/\cn>e)-> ∀r,oB [ix,.a e,nm,.j false] r=.c (.g [.c ps,.f]) r):DA [ix,.a e,nm] r=Rm (WA e kd cn ps) r:=by
 unfold WA
 by_cases hg:kd=bt/\cn>e
 ·refine aK (aJ hg) ?_
  exact rN rfl<|lq (xP V rfl rfl<|ab hg)<|oG rfl
 ·refine aK (aN hg) ?_
  have pre: ∀gQ,bM (aB wc) [] (.a (.e 4 (.b<|.a (.k .cn<|.a (.b 3) .b) .b) rv)<|.a (.c<|.b 3) .b) (Zh ix e nm ps none none) r=gQ->bM (aB wc) zg.mu zg.body (eH zg [ix,.a e,nm]) r=gQ:=λgQ h=>
   (aH<|xP V rfl rfl<|al hg).trans ((ax rfl<|ew (bu (aV rfl<|aV rfl<|aV rfl<|aV rfl rfl)<|hp hg r) rfl rfl).trans h)
  have hr:fQ [.a (ps.length:aL)]=some ((bp ps.length).map λ(j:av)=>.a<|0+(j:aL)):=by
   show gL (decide (-9999<=(ps.length:aL))&&decide ((ps.length:aL)<=9999)) (cG 0 ps.length)=_
   refine aK (ab (by lia))<|aK (ab (by lia)) ?_
   unfold cG
   rw[show((ps.length:aL) - 0).toNat=ps.length by rfl];rfl
  have lp:=UU (r:=r) (nm:=nm) (e:=e) V.k ho (bp ps.length) none none λj m=>bE.mp m
  rw[MP]at lp
  by_cases hb:ps.any (xm (decide<|kd=aG) e)=true
  ·refine aK (aJ hb) ?_
   exact rN rfl<|pre _<|zD rfl hr<|lp.1 hb
  ·refine aK (aN hb) ?_
   refine jK (lp.2<|SG _▸hb) λa' b' q=>?_
   exact cg rfl<|pre _<|(rM rfl hr q).trans<|bR rfl
noncomputable def Es(I D L:DV)(acc:aa DV)(a4 a5 a6 a7 a8:ag (aM×DV)):Sl:=[some (false,I),some (false,D),some (false,L),some (true,.c acc),a4,a5,a6,a7,a8]
theorem UV(V:zS ix kd cn): ∀(ps:aa DV) (a8:ag (aM×DV)),(∀p∈ps,oJ p)->
  (ps.any (xm (decide<|kd=aG) e)=true->dH (λx δ r=>bM (aB fj) [3] kj (di δ 8 x) r) ps (Es I D L acc (some (false,ix)) (some (false,.a e)) sp (some (false,f)) a8) r=.b (.d wN) r)/\
  (ps.any (xm (decide<|kd=aG) e)=false-> ∃Yx,dH (λx δ r=>bM (aB fj) [3] kj (di δ 8 x) r) ps (Es I D L acc (some (false,ix)) (some (false,.a e)) sp (some (false,f)) a8) r=.a (Es I D L acc (some (false,ix)) (some (false,.a e)) sp (some (false,f)) Yx) r):=λo0=>by
 induction o0 with
 |nil=>exact λa8 U=>⟨λh=>(by cases h),λU=>⟨a8,rfl⟩⟩
 |cons p ps ih=>
  intro a8 ho
  have st:bM (aB fj) [3] kj (di (Es I D L acc (some (false,ix)) (some (false,.a e)) sp (some (false,f)) a8) 8 p) r=if xm (decide<|kd=aG) e p=true then .b (.d wN) r else .a (Es I D L acc (some (false,ix)) (some (false,.a e)) sp (some (false,f))<|some (false,p)) r:=by
   rcases ho p (.head _) with rfl|⟨i,h0,rfl⟩
   ·by_cases hc:kd=aG
    ·rw[aJ (by show decide _=true;exact ab hc)]
     refine cQ (r1:=r) (DG<|dW (r1:=r) rfl<|gC (r1:=r) (wm (ix:=ix) (kd:=kd) rfl V.k (ab hc) (by decide)) rfl) ?_
     exact bR rfl
    ·rw[aN (by show ¬decide _=true;rw[al hc];decide)]
     exact(aH (ss:=.b) (r1:=r)<|lZ (r1:=r) (dW (r1:=r) rfl<|ia (r1:=r)<|wm (ix:=ix) (kd:=kd) rfl V.k (al hc) (by decide)) rfl).trans rfl
   ·by_cases hc:i>=e
    ·rw[aJ (by show decide _=true;exact ab hc)]
     refine cQ (r1:=r) (lZ (r1:=r) rfl<|zH (r1:=r)<|dW (r1:=r) rfl<|gC (r1:=r) (dz (x:=.a i) (y:=.a e) (r1:=r) (r2:=r) rfl rfl (by show some (decide<|i>=e)=_;rw[ab hc])) rfl) ?_
     exact bR rfl
    ·rw[aN (by show ¬decide _=true;rw[al hc];decide)]
     exact(aH (ss:=.b) (r1:=r)<|lZ (r1:=r) rfl<|qj (r1:=r) (dW (r1:=r) rfl<|ia (r1:=r)<|dz (x:=.a i) (y:=.a e) (r1:=r) (r2:=r) rfl rfl (by show some (decide<|i>=e)=_;rw[al hc])) rfl).trans rfl
  have ih:=ih (some (false,p)) λq m=>ho q<|.tail _ m
  rw[f7]
  cases hb:xm (decide<|kd=aG) e p with
  |true=>
   rw[hb,aJ rfl]at st
   exact⟨λU=>F8 st,λh=>(by cases h)⟩
  |false=>
   rw[hb,aN (by decide)]at st
   rw[El]
   exact⟨λh=>bq st<|ih.1 h,λh=>let⟨a',q⟩:=ih.2 h;⟨a',bq st q⟩⟩
noncomputable def Ro(L:DV)(k:av)(nm:DV):Prop:=(L=.f/\nm=.f)\/ ∃ls,L=.c ls/\ls[k]?=some nm
theorem jA{xs:aa DV}{k:av}{x:DV}(h:xs[k]?=some x):xg (.c xs) (.a<|0+(k:aL))=some x:=by
 refine Q8 ?_
 show(if 0<=0+(k:aL) then xs[(0+(k:aL)).toNat]? else if 0<=0+(k:aL)+xs.length then xs[(0+(k:aL)+xs.length).toNat]? else none)=_
 exact aK (aJ (by lia))<|aK (show(0+(k:aL)).toNat=k by lia)<|aK h rfl
theorem Rp{I D L:DV}{acc:aa DV}{k:av}(V:zS ix kd cn){ps:aa DV}(ho: ∀p∈ps,oJ p)(hn:Ro L k nm)(ha:acc.length<9999)
  (hp: ¬(kd=bt/\cn>e)-> ∀r,sn [ix,.a e,nm,.j false] r=.c (.g [.c ps,.f]) r) (a7 a8:ag (aM×DV)):
  match WA e kd cn ps with
  |.ok ps=> ∃IM Yx,bM (aB fj) [3] fV (Es I D L acc (some (false,ix)) (some (false,.a e)) (some (false,.a<|0+(k:aL))) a7 a8) r=.a (Es I D L (acc++[.c ps]) (some (false,ix)) (some (false,.a e)) (some (false,.a<|0+(k:aL))) IM Yx) r
  |.error m=>bM (aB fj) [3] fV (Es I D L acc (some (false,ix)) (some (false,.a e)) (some (false,.a<|0+(k:aL))) a7 a8) r=.b (.d m) r:=by
 unfold WA
 by_cases hg:kd=bt/\cn>e
 ·refine aK (aJ hg) ?_
  refine cQ (r1:=r) (xP V rfl rfl<|ab hg) ?_
  exact bR rfl
 ·refine aK (aN hg) ?_
  have hnm:dv (aB fj) (.w (.f .Is (.b 2) .o) .o<|.m (.b 2)<|.b 6) (bU<|Es I D L acc (some (false,ix)) (some (false,.a e)) (some (false,.a<|0+(k:aL))) a7 a8) r=.c nm r:=by
   rcases hn with⟨rfl,rfl⟩|⟨ls,rfl,h⟩
   ·rfl
   ·exact jb rfl<|ew (x:=.c ls) (y:=.a<|0+(k:aL)) (r1:=r) (r2:=r) rfl rfl<|jA h
  have pre: ∀gQ,bM (aB fj) [3] (.a (.e 8 (.a<|.m (.b 7)<|.d 0) kj)<|.a (.d<|.p .append (.b 3)<|.a (.m (.b 7)<|.d 0) .b) .b) (Es I D L acc (some (false,ix)) (some (false,.a e)) (some (false,.a<|0+(k:aL))) (some (false,.g [.c ps,.f])) a8) r=gQ->
    bM (aB fj) [3] fV (Es I D L acc (some (false,ix)) (some (false,.a e)) (some (false,.a<|0+(k:aL))) a7 a8) r=gQ:=λgQ h=>
   (aH<|xP V rfl rfl<|al hg).trans ((ax rfl<|bu (f:=3) (vs:=[ix,.a e,nm,.j false]) (r1:=r) (aV rfl<|aV rfl<|aV hnm<|aV rfl rfl)<|hp hg r).trans<|(aH rfl).trans h)
  have lp:=UV (r:=r) (I:=I) (D:=D) (L:=L) (f:=.g [.c ps,.f]) (acc:=acc) (sp:=some (false,.a<|0+(k:aL))) (e:=e) V ps a8 ho
  by_cases hb:ps.any (xm (decide<|kd=aG) e)=true
  ·refine aK (aJ hb) ?_
   exact pre _<|Mz rfl rfl<|lp.1 hb
  ·refine aK (aN hb) ?_
   refine bN (lp.2<|SG _▸hb) λa' q=>?_
   exact⟨_,_,pre _<|(nt rfl rfl q).trans<|(dk rfl rfl ha).trans rfl⟩
end
noncomputable abbrev wX:=WP (aa av)<|aa DV
noncomputable def IN(L:DV)(k:av)(ix:DV)(e:aL)(nm:DV)(R:wX):Prop:=
 (∀r,DA [ix,.a e,nm] r=Rm R r)/\
 (∀I D acc a7 a8 r,acc.length<9999->match(generalizing:=false) R with
  |.ok ps=> ∃IM Yx,bM (aB fj) [3] fV (Es I D L acc (some (false,ix)) (some (false,.a e)) (some (false,.a<|0+(k:aL))) a7 a8) r=.a (Es I D L (acc++[.c ps]) (some (false,ix)) (some (false,.a e)) (some (false,.a<|0+(k:aL))) IM Yx) r
  |.error m=>bM (aB fj) [3] fV (Es I D L acc (some (false,ix)) (some (false,.a e)) (some (false,.a (0+(k:aL)))) a7 a8) r=.b (.d m) r)/\
 ((∃m,R=.error m/\m.length<=99)\/ ∃ps,R=.ok ps/\ps.length<=4/\ ∀p∈ps,p=.f\/ ∃i:aL,0<=i/\i<e/\p=.a i)
theorem UW(h:l4 ix)(he:1<=e/\e<=4)(hn:nm∈t6)(hN:Ro L k nm): ∃R,IN L k ix e nm R:=by
 refine aU λG9 k9=>?_
 obtain⟨kd,cn,V,hv⟩:=h.pk
 refine k9 ?_
 by_cases hg:kd=bt/\cn>e
 ·refine⟨WA e kd cn [],λr=>Ge V (ps:=[]) (by simp) (by simp)<|λq=>absurd hg q,λI D acc a7 a8 r ha=>Rp (ps:=[]) V (by simp) hN ha (λq=>absurd hg q) a7 a8,.inl ⟨UA,?_,by decide⟩⟩
  unfold WA
  exact aK (aJ hg) rfl
 ·obtain⟨ps,hl,ho,h1,h2⟩:=abN h he hn λxs hx=>by
   obtain⟨q1,q2⟩:=hv xs hx
   refine aK q2 ?_
   exact dS.mp λw=>hg ⟨q1,w⟩
  refine⟨WA e kd cn ps,λr=>Ge V hl ho<|λU=>h1,λI D acc a7 a8 r ha=>Rp V ho hN ha (λU=>h2) a7 a8,?_⟩
  unfold WA
  refine aK (aN hg) ?_
  by_cases hb:ps.any (xm (decide<|kd=aG) e)=true
  ·rw[aJ hb];exact .inl ⟨_,rfl,by decide⟩
  ·refine aK (aN hb) ?_
   refine .inr ⟨ps,rfl,hl,λp m=>?_⟩
   rcases ho p m with rfl|⟨i,h0,rfl⟩
   ·exact .inl rfl
   ·refine .inr ⟨i,h0,vu.mp λw=>hb<|xD.mpr ⟨_,m,ab w⟩,rfl⟩
noncomputable def wn(R:av->wX):aa av->WP (aa av) (aa<|aa DV)
 |[]=>.ok []
 |k::ks=>match R k with
  |.error m=>.error m
  |.ok ps=>match wn R ks with
   |.error m=>.error m
   |.ok mA=>.ok<|ps::mA
theorem xQ{R:av->wX}{ks k o}(h:R k=o):wn R (k::ks)=match(generalizing:=false) o with|.error m=>.error m|.ok ps=>match wn R ks with|.error m=>.error m|.ok mA=>.ok (ps::mA):=by subst h;rfl
theorem zT{R:av->wX}{ks k m}(h:R k=.error m):wn R (k::ks)=.error m:=xQ h
section
variable{r:Rw}
theorem DP{ct:av->Fn}{mu:aa av}{i:av}{e:Ex}{ss:ig}{δ:Sl}{r r1:Rw}{xs:aa DV}{m:aa av}(ho:δ[i]?=some (some (true,.c xs)))(h:dv ct e (bU δ) r=.e m r1):bM ct mu (.a (.d<|.p .append (.b i)<|.a e .b) ss) δ r=.c m r1:=by
 refine my ?_
 show dO ((dJ δ i).bind DV.bW) (λU=>(d9 bA (dv ct e) δ r).fZ λp r=>dO ((dJ p.2 i).bind λx=>Lr x p.1) λy=>.a (gI p.2 i y) r)=_
 refine aK (lY ho)<|aK (zA h) ?_
 rfl
noncomputable def SQ(v D X L:DV)(acc:aa DV)(a5 a6:ag (aM×DV)):Sl:=[some (false,v),some (false,D),some (false,X),some (false,L),some (true,.c acc),a5,a6]
theorem UX{v L ix nm:DV}{ds ixs acc:aa DV}{k:av}{e:aL}{R:wX}(hx:ixs[k]?=some ix)(he:ds[k]?=some (.a e))(hN:Ro L k nm)(hR: ∀r,DA [ix,.a e,nm] r=Rm R r)(ha:acc.length<9999)(a5 a6:ag (aM×DV)):
  bM (aB fW) [4] gX (di (SQ v (.c ds) (.c ixs) L acc a5 a6) 5<|.a<|0+(k:aL)) r=match(generalizing:=false) R with
   |.ok ps=>.a (SQ v (.c ds) (.c ixs) L (acc++[.c ps]) (some (false,.a<|0+(k:aL)))<|some (false,nm)) r
   |.error m=>.c m r:=by
 have pre: ∀gQ,bM (aB fW) [4] (.a (.d<|.p .append (.b 4)<|.a (.h 52<|.a (.m (.b 2)<|.b 5)<|.a (.m (.b 1)<|.b 5)<|.a (.b 6) .b) .b) .b) (SQ v (.c ds) (.c ixs) L acc (some (false,.a<|0+(k:aL)))<|some (false,nm)) r=gQ->
   bM (aB fW) [4] gX (di (SQ v (.c ds) (.c ixs) L acc a5 a6) 5<|.a<|0+(k:aL)) r=gQ:=λgQ h=>by
  refine(ax (d:=.f) (r1:=r) rfl rfl).trans ?_
  rcases hN with⟨rfl,rfl⟩|⟨ls,rfl,hl⟩
  ·exact(aH rfl).trans h
  ·refine(dh (r1:=r) (iZ:=SQ v (.c ds) (.c ixs) (.c ls) acc (some (false,.a<|0+(k:aL)))<|some (false,nm)) (r2:=r) rfl<|(ax (r1:=r) rfl<|ew (x:=.c ls) (y:=.a<|0+(k:aL)) (r1:=r) (r2:=r) rfl rfl<|jA hl).trans rfl).trans h
 have hc:dv (aB fW) (.h 52<|.a (.m (.b 2)<|.b 5)<|.a (.m (.b 1)<|.b 5)<|.a (.b 6) .b) (bU<|SQ v (.c ds) (.c ixs) L acc (some (false,.a<|0+(k:aL)))<|some (false,nm)) r=Rm R r:=
  bu (f:=52) (vs:=[ix,.a e,nm]) (r1:=r) (aV (ew (x:=.c ixs) (y:=.a<|0+(k:aL)) (r1:=r) (r2:=r) rfl rfl<|jA hx)<|aV (ew (x:=.c ds) (y:=.a<|0+(k:aL)) (r1:=r) (r2:=r) rfl rfl<|jA he)<|aV rfl rfl) (hR r)
 cases R with
 |ok ps=>exact pre _ ((dk rfl hc ha).trans rfl)
 |error m=>exact pre _ (DP rfl hc)
theorem UY{v L:DV}{ds ixs:aa DV}{UZ Rq:av->DV}{eF:av->aL}{R:av->wX}: ∀(ks:aa av) (acc:aa DV) (a5 a6:ag (aM×DV)),acc.length+ks.length<9999->
  (∀k∈ks,ixs[k]?=some (UZ k)/\ds[k]?=some (.a<|eF k)/\Ro L k (Rq k)/\ ∀r,DA [UZ k,.a<|eF k,Rq k] r=Rm (R k) r)->
  match(generalizing:=false) wn R ks with
  |.ok mA=> ∃a5' Yy,dH (λx δ r=>bM (aB fW) [4] gX (di δ 5 x) r) (ks.map λ(k:av)=>.a<|0+(k:aL)) (SQ v (.c ds) (.c ixs) L acc a5 a6) r=.a (SQ v (.c ds) (.c ixs) L (acc++mA.map .c) a5' Yy) r
  |.error m=>dH (λx δ r=>bM (aB fW) [4] gX (di δ 5 x) r) (ks.map λ(k:av)=>.a<|0+(k:aL)) (SQ v (.c ds) (.c ixs) L acc a5 a6) r=.c m r:=λo0=>by
 induction o0 with
 |nil=>exact λacc a5 a6 U U=>⟨a5,a6,by rw[qX,qX,bI];rfl⟩
 |cons k ks ih=>
  intro acc a5 a6 hl h
  rw[dq]at hl
  refine ZB (h k<|.head _) λh1 h2 h3 h4=>?_
  have st:=UX (r:=r) (v:=v) h1 h2 h3 h4 (acc:=acc) (aI (c0 ..) hl) a5 a6
  cases hR:R k with
  |error m=>
   rw[zT hR]
   rw[hR]at st
   exact zF st
  |ok ps=>
   rw[xQ hR]
   rw[hR]at st
   have ih:=ih (acc++[.c ps]) (some (false,.a<|0+(k:aL))) (some (false,Rq k)) (by rw[aP];exact Lj hl) λj m=>h j<|.tail _ m
   dsimp only
   cases hr:wn R ks with
   |error m=>rw[hr]at ih;exact bq st ih
   |ok mA=>
    rw[hr]at ih
    obtain⟨b5,b6,q⟩:=ih
    exact⟨b5,b6,bq st<|q.trans (by simp)⟩
noncomputable abbrev Rr:DV->Sl->Rw->SR:=j5 [4,5,6] λδ r=>bM (aB fj) [3] fV δ r
theorem Rs{I D L:DV}{UZ Rq:av->DV}{eF:av->aL}{R:av->wX}: ∀(ks:aa av) (acc:aa DV) (a4 a5 a6 a7 a8:ag (aM×DV)),acc.length+ks.length<9999->(∀k∈ks,IN L k (UZ k) (eF k) (Rq k)<|R k)->
  match(generalizing:=false) wn R ks with
  |.ok mA=> ∃a4' a5' Yy IM Yx,dH Rr (ks.map λ(k:av)=>.g [UZ k,.a<|eF k,.a<|0+(k:aL)]) (Es I D L acc a4 a5 a6 a7 a8) r=.a (Es I D L (acc++mA.map .c) a4' a5' Yy IM Yx) r
  |.error m=>dH Rr (ks.map λ(k:av)=>.g [UZ k,.a<|eF k,.a<|0+(k:aL)]) (Es I D L acc a4 a5 a6 a7 a8) r=.b (.d m) r:=λo0=>by
 induction o0 with
 |nil=>exact λacc a4 a5 a6 a7 a8 U U=>⟨a4,a5,a6,a7,a8,by rw[qX,qX,bI];rfl⟩
 |cons k ks ih=>
  intro acc a4 a5 a6 a7 a8 hl h
  rw[dq]at hl
  have st:=(h k<|.head _).2.1 I D acc a7 a8 r<|aI (c0 ..) hl
  cases hR:R k with
  |error m=>
   rw[zT hR]
   rw[hR]at st
   exact F8 st
  |ok ps=>
   rw[xQ hR]
   rw[hR]at st
   refine jK st λb7 b8 st=>?_
   have ih:=ih (acc++[.c ps]) (some (false,UZ k)) (some (false,.a<|eF k)) (some (false,.a<|0+(k:aL))) b7 b8 (by rw[aP];exact Lj hl) λj m=>h j<|.tail _ m
   dsimp only
   cases hr:wn R ks with
   |error m=>rw[hr]at ih;exact bq st ih
   |ok mA=>
    rw[hr]at ih
    refine ex5 ih λc4 c5 c6 c7 c8 q=>?_
    exact⟨c4,c5,c6,c7,c8,bq st<|q.trans (by simp)⟩
end
section
variable{ct:av->Fn}{mu is:aa av}{e1 e2 en:Ex}{b ss:ig}{δ iZ:Sl}{r r1 r2 r3 r4:Rw}{xs ys:aa DV}{n:aL}{d:DV}
noncomputable abbrev sv(ct:av->Fn)(mu is:aa av)(b:ig):DV->Sl->Rw->SR:=j5 is λδ r=>bM ct mu b δ r
theorem KQ(h1:dv ct e1 (bU δ) r=.c (.c xs) r1)(h2:dv ct e2 (bU δ) r1=.c (.c ys) r2)(h3:dv ct en (bU δ) r2=.c (.a n) r3)(hc:xs.length<=ys.length/\xs.length<=n.toNat/\0<=n/\n<=9999):
  ds ct mu (.k is e1 e2 en b) δ r=dH (sv ct mu is b) ((xs.zip<|ys.zip<|cG 0 n).map λp=>.g [p.1,p.2.1,p.2.2]) δ r3:=by
 show(d9 bA (dv ct e1) δ r).fZ _=_
 refine aK (gB h1) ?_
 show(d9 bA (dv ct e2) δ r1).fZ _=_
 refine aK (gB h2) ?_
 show(d9 bA (dv ct en) δ r2).fZ _=_
 refine aK (gB h3) ?_
 show dO (gL (decide (xs.length<=ys.length)&&decide (xs.length<=n.toNat)&&decide (0<=n)&&decide (n<=9999)) (xs,ys,n)) _=_
 refine aK (ql<|rP (rP (rP (ab hc.1)<|ab hc.2.1)<|ab hc.2.2.1)<|ab hc.2.2.2) ?_
 rfl
theorem Yz(h1:dv ct e1 (bU δ) r=.c (.c xs) r1)(h2:dv ct e2 (bU δ) r1=.c (.c ys) r2)(h3:dv ct en (bU δ) r2=.c (.a n) r3)(hc:xs.length<=ys.length/\xs.length<=n.toNat/\0<=n/\n<=9999)
  (hl:dH (sv ct mu is b) ((xs.zip<|ys.zip<|cG 0 n).map λp=>.g [p.1,p.2.1,p.2.2]) δ r3=.a iZ r4):bM ct mu (.a (.k is e1 e2 en b) ss) δ r=bM ct mu ss iZ r4:=dE<|(KQ h1 h2 h3 hc).trans hl
theorem U0(h1:dv ct e1 (bU δ) r=.c (.c xs) r1)(h2:dv ct e2 (bU δ) r1=.c (.c ys) r2)(h3:dv ct en (bU δ) r2=.c (.a n) r3)(hc:xs.length<=ys.length/\xs.length<=n.toNat/\0<=n/\n<=9999)
  (hl:dH (sv ct mu is b) ((xs.zip<|ys.zip<|cG 0 n).map λp=>.g [p.1,p.2.1,p.2.2]) δ r3=.b d r4):bM ct mu (.a (.k is e1 e2 en b) ss) δ r=.b d r4:=sq<|(KQ h1 h2 h3 hc).trans hl
theorem Rt(h1:dv ct e1 (bU δ) r=.c (.c xs) r1)(h2:dv ct e2 (bU δ) r1=.c (.c ys) r2)(hc:xs.length<=ys.length)
  (hl:dH (sv ct mu is b) ((xs.zip ys).map λp=>.g [p.1,p.2]) δ r2=.a iZ r3):bM ct mu (.a (.n is e1 e2 b) ss) δ r=bM ct mu ss iZ r3:=by
 refine dE<|.trans ?_ hl
 show(d9 bA (dv ct e1) δ r).fZ _=_
 refine aK (gB h1) ?_
 show(d9 bA (dv ct e2) δ r1).fZ _=_
 refine aK (gB h2) ?_
 show dO (gL (decide<|xs.length<=ys.length) (xs,ys)) _=_
 refine aK (ab hc) ?_
 rfl
end
section
variable{k:aa av}{dims:aa aL}{lists v:DV}
theorem Ru(h:iB k dims lists v)(r:Rw):QT [v] r=.c (.c<|dims.map .a) r:=by
 obtain⟨its,cx,mV,_,_,h⟩:=h.ex
 refine aK mV ?_
 rcases h with⟨_,h⟩|⟨ls,pat,_,_,_,h⟩<;>cases h<;>rfl
theorem IP(h:iB k dims lists v)(r:Rw):AM [v] r=.c lists r:=by
 obtain⟨its,cx,hv,_,_,ha⟩:=h.ex
 clear h
 rcases ha with⟨h1,h2⟩|⟨ls,pat,h1,hn,_,h2⟩
 ·subst h1 hv
  cases h2;rfl
 ·subst h1 hv
  cases h2
  refine cg rfl ?_
  refine(ax (d:=aS (.d dL) (ls.map iv) pat) (r1:=r) rfl rfl).trans ?_
  refine(aH rfl).trans ?_
  refine bR ?_
  have hm:ls=(ls.map iv).map (λp=>match p with|.n 0 [(0,_),(1,.c xs),_,_,_]=>.c xs|_=>.f):=by
   rw[dj]
   conv=>lhs;rw[←f6 ls]
   refine cr λd m=>?_
   rcases hn.rm d m with rfl|⟨xs,rfl⟩<;>rfl
  conv=>rhs;rw[hm]
  refine wV _ (zK (xs:=ls.map iv) rfl) λp m=>?_
  rw[bb]at m
  obtain⟨d,m,rfl⟩:=m
  rcases hn.rm d m with rfl|⟨xs,rfl⟩<;>rfl
theorem fm{P:aa av->Prop}(h:k∈bQ)(h1:P bt)(h2:P bg)(h3:P bk)(h4:P aG):P k:=by
 simp only[bQ,a0,gh,sB]at h
 rcases h with rfl|rfl|rfl|rfl<;>assumption
theorem U1(h:iB k dims lists v)(r:Rw):jF [v] r=.c .f r:=by
 obtain⟨hk,hd,its,cx,rfl,_,_,h⟩:=h
 rcases hd with⟨a,b,_,_,_,_,rfl⟩|⟨a,b,c,_,_,_,_,_,_,rfl⟩
 ·rcases h with⟨_,h⟩|⟨ls,pat,_,_,_,h⟩<;>cases h<;>exact fm (P:=λk=>jF [aS (.d k) its _] r=.c .f r) hk (by kernel_rfl) (by kernel_rfl) (by kernel_rfl) (by kernel_rfl)
 ·rcases h with⟨_,h⟩|⟨ls,pat,_,_,_,h⟩<;>cases h<;>exact fm (P:=λk=>jF [aS (.d k) its _] r=.c .f r) hk (by kernel_rfl) (by kernel_rfl) (by kernel_rfl) (by kernel_rfl)
end
noncomputable abbrev YA:=WP (aa av)<|aa<|aa DV
noncomputable def B1:aa aL->aa (aa DV)->Prop
 |[],[]=>True
 |e::es,ps::mA=>(ps.length<=4/\ ∀p∈ps,p=.f\/ ∃i:aL,0<=i/\i<e/\p=.a i)/\B1 es mA
 |_,_=>cC
structure mK(v:DV)(dims:aa aL)(lists:DV)(ixs:aa DV)(X:YA):Prop where
 prog: ∀r,DD [v,.c<|dims.map .a,.c ixs] r=match(generalizing:=false) X with|.ok mA=>.c (.c (mA.map .c)) r|.error m=>.e m r
 Zg: ∀r,Iw [.c ixs,.c<|dims.map .a,lists] r=match(generalizing:=false) X with|.ok mA=>.c (.c (mA.map .c)) r|.error m=>.c (.d m) r
 ok:(∃m,X=.error m/\m.length<=99)\/ ∃mA,X=.ok mA/\B1 dims mA
theorem DQ(he:1<=e/\e<=4):DV.c (gD e)∈t6:=by
 have:e=1\/e=2\/e=3\/e=4:=Zx (by assumption)
 unfold t6
 rcases this with rfl|rfl|rfl|rfl<;>simp
theorem oH.at: ∀{es:aa aL} {ls:aa DV},oH es ls-> ∀{k:av} {e:aL},es[k]?=some e->1<=e/\e<=4-> ∃d,ls[k]?=some d/\d∈t6:=λ{es}=>by
 induction es with
 |nil=>intro ls U k e h;exact nomatch (h:none=some e)
 |cons x es ih=>intro ls hn;cases ls with
  |nil=>exact uk hn
  |cons d ls=>
   intro k e h he
   cases k with
   |zero=>
    cases(h:some x=some e)
    refine⟨d,rfl,?_⟩
    rcases hn.1 with rfl|rfl
    ·exact .head _
    ·exact DQ he
   |succ k=>exact ih hn.2 h he
theorem IQ(R:av->wX)(es:aa aL): ∀(ks:aa av),(∀k∈ks,(∃m,R k=.error m/\m.length<=99)\/ ∃ps,R k=.ok ps/\ps.length<=4/\ ∀p∈ps,p=.f\/ ∃i:aL,0<=i/\i<es[k]?.getD 0/\p=.a i)->
  (∃m,wn R ks=.error m/\m.length<=99)\/ ∃mA,wn R ks=.ok mA/\B1 (ks.map λk=>es[k]?.getD 0) mA:=λo0=>by
 induction o0 with
 |nil=>exact λU=>.inr ⟨[],rfl,trivial⟩
 |cons k ks ih=>
  intro h
  rcases h k (.head _) with⟨m,e,hm⟩|⟨ps,e,hp⟩
  ·rw[zT e];exact .inl ⟨m,rfl,hm⟩
  ·rw[xQ e]
   rcases ih λj m=>h j (.tail _ m) with⟨m,e2,hm⟩|⟨mA,e2,hq⟩
   ·rw[e2];exact .inl ⟨m,rfl,hm⟩
   ·rw[e2];exact .inr ⟨ps::mA,rfl,hp,hq⟩
theorem Rv{α:Type}{l:aa α}{n:av}(h:l.length=n+1): ∃a t,l=a::t/\t.length=n:=by
 cases l with
 |nil=>cases h
 |cons a t=>exact⟨a,t,rfl,dc h⟩
theorem Rx{k:aa av}{dims:aa aL}{lists v:DV}{ixs:aa DV}(hv:iB k dims lists v)(hl:ixs.length=dims.length):
  ((ixs.zip<|(dims.map DV.a).zip<|cG 0 dims.length).map λp=>DV.g [p.1,p.2.1,p.2.2])=(bp dims.length).map λ(j:av)=>.g [ixs[j]?.getD .f,.a<|dims[j]?.getD 0,.a<|0+(j:aL)]:=by
 have hd:=hv.GK
 clear hv
 rcases hd with⟨a,b,_,_,_,_,rfl⟩|⟨a,b,c,_,_,_,_,_,_,rfl⟩
 ·obtain⟨i,t,ym,h1⟩:=Rv (n:=1) hl
  refine aK ym ?_
  obtain⟨j,t',XU,h2⟩:=Rv (n:=0) h1
  refine aK XU ?_
  cases bY h2
  rfl
 ·obtain⟨i,t,CG,h1⟩:=Rv (n:=2) hl
  refine aK CG ?_
  obtain⟨j,t',yr,h2⟩:=Rv (n:=1) h1
  refine aK yr ?_
  obtain⟨l,t'',EP,h3⟩:=Rv (n:=0) h2
  refine aK EP ?_
  cases bY h3
  rfl
theorem IR{k:aa av}{dims:aa aL}{lists v:DV}{ixs:aa DV}(hv:iB k dims lists v)(hl:ixs.length=dims.length)(hx: ∀ix∈ixs,l4 ix): ∃X,mK v dims lists ixs X:=by
 have hnm: ∀j,∃nm,j<dims.length->Ro lists j nm/\nm∈t6:=λj=>by
  by_cases hj:j<dims.length
  ·refine jK hv.ex λits cx h9=>ZB h9 λU U U ha=>?_
   rcases ha with⟨h,_⟩|⟨ls,pat,h,hn,_,_⟩
   ·exact⟨.f,λU=>⟨.inl ⟨h,rfl⟩,.head _⟩⟩
   ·refine bN (hn.at (aC hj) (hv.GK.rm _<|hG hj)) λd h9=>cK h9 λh1 h2=>?_
    exact⟨d,λU=>⟨.inr ⟨ls,h,h1⟩,h2⟩⟩
  ·exact⟨.f,λq=>absurd q hj⟩
 refine bN (oO hnm) λRq hnm=>?_
 have hR: ∀j,∃R,j<dims.length->IN lists j (ixs[j]?.getD .f) (dims[j]?.getD 0) (Rq j) R:=λj=>by
  by_cases hj:j<dims.length
  ·have hj2:j<ixs.length:=by lia
   refine cK (hnm j hj) λh1 h2=>?_
   refine bN (UW (hx _<|hG hj2) (hv.GK.rm _<|hG hj) h2 h1) λR h=>?_
   refine⟨R,λU=>?_⟩
   refine aK (aC hj2)<|aK (aC hj) ?_
   exact h
  ·exact⟨.ok [],λq=>absurd q hj⟩
 refine bN (oO hR) λR hR=>?_
 have hlen:=hv.GK.cn
 refine⟨wn R<|bp dims.length,λr=>?_,λr=>?_,?_⟩
 ·have lp:=UY (r:=r) (v:=v) (L:=lists) (ds:=dims.map .a) (ixs:=ixs) (UZ:=λj=>ixs[j]?.getD .f) (Rq:=Rq) (eF:=λj=>dims[j]?.getD 0) (R:=R) (bp dims.length) [] none none (by simp;exact aI (mD.right (by assumption)) (by decide)) λj m=>by
   have hj:=bE.mp m
   refine⟨?_,?_,(hnm j hj).1,(hR j hj).1⟩
   ·rw[aC (show j<ixs.length by lia)];rfl
   ·rw[bl,aC hj];rfl
  have hrg:fQ [.a ((dims.map DV.a).length:aL)]=some ((bp dims.length).map λ(j:av)=>.a<|0+(j:aL)):=by
   rw[aw]
   show gL (decide (-9999<=(dims.length:aL))&&decide ((dims.length:aL)<=9999)) (cG 0 dims.length)=_
   refine aK (ab (by lia))<|aK (ab (by lia)) ?_
   unfold cG
   rw[show((dims.length:aL) - 0).toNat=dims.length by rfl];rfl
  have pre: ∀gQ,bM (aB fW) [4] (.a (.e 5 (.b<|.a (.k .cn<|.a (.b 1) .b) .b) gX)<|.a (.c<|.b 4) .b) (SQ v (.c<|dims.map .a) (.c ixs) lists [] none none) r=gQ->bM (aB fW) kl.mu kl.body (eH kl [v,.c<|dims.map .a,.c ixs]) r=gQ:=λgQ h=>
   (ax (d:=lists) (r1:=r) rfl<|bu (f:=19) (vs:=[v]) (r1:=r) (aV rfl rfl)<|IP hv r).trans ((iT rfl rfl).trans h)
  cases hX:wn R (bp dims.length) with
  |error m=>rw[hX]at lp;exact rN rfl<|pre _<|zD rfl hrg lp
  |ok mA=>
   rw[hX]at lp
   refine jK lp λa5 a6 lp=>?_
   exact cg rfl<|pre _<|(rM rfl hrg lp).trans<|bR rfl
 ·have lp:=Rs (r:=r) (I:=.c ixs) (D:=.c<|dims.map .a) (L:=lists) (UZ:=λj=>ixs[j]?.getD .f) (Rq:=Rq) (eF:=λj=>dims[j]?.getD 0) (R:=R) (bp dims.length) [] none none none none none (by simp;exact aI (mD.right (by assumption)) (by decide)) λj m=>hR j<|bE.mp m
  rw[←Rx hv hl]at lp
  have WB:ixs.length<=(dims.map DV.a).length/\ixs.length<=(dims.length:aL).toNat/\0<=(dims.length:aL)/\(dims.length:aL)<=9999:=by rw[aw];exact⟨cX (by assumption),⟨cX (by assumption),⟨ba _,cle<|ao (mD.right (by assumption)) (by decide)⟩⟩⟩
  have hen:dv (aB fj) (.k .cn<|.a (.b 1) .b) (bU<|Es (.c ixs) (.c<|dims.map .a) lists [] none none none none none) r=.c (.a dims.length) r:=pJ (aV rfl rfl) (by show some (DV.a (dims.map DV.a).length)=_;rw[aw])
  cases hX:wn R (bp dims.length) with
  |error m=>rw[hX]at lp;exact cg rfl<|(iT rfl rfl).trans<|U0 (b:=fV) rfl rfl hen WB lp
  |ok mA=>
   rw[hX]at lp
   refine ex5 lp λa4 a5 a6 a7 a8 lp=>?_
   exact cg rfl<|(iT rfl rfl).trans<|(Yz (b:=fV) rfl rfl hen WB lp).trans<|bR rfl
 ·have:=IQ R dims (bp dims.length) λj m=>(hR j<|bE.mp m).2.2
  have hm:((bp dims.length).map λj=>dims[j]?.getD 0)=dims:=by
   rcases hv.GK with⟨a,b,_,_,_,_,rfl⟩|⟨a,b,c,_,_,_,_,_,_,rfl⟩<;>rfl
  rw[hm]at this
  exact this
noncomputable def IS:DV->ag aL
 |.a i=>some i
 |_=>none
noncomputable def eS(b p:DV)(s:aL):DV:=
 match IS b with
 |some b=>(match IS p with
  |some p=>.a<|b+p*s
  |none=>.f)
 |none=>.f
theorem sy(b p1 p2:DV)(s t:aL):eS (eS b p2 s) p1 t=eS (eS b p1 t) p2 s:=by
 unfold eS
 cases IS b<;>cases IS p1<;>cases IS p2<;>first|rfl|exact aE DV.a (Int.add_right_comm _ _ _)
noncomputable def xn(e:aL)(p:DV):Prop:=p=.f\/ ∃i:aL,0<=i/\i<e/\p=.a i
theorem MQ{J:Type}{S:aa DV->J->Sl}{aW:DV->Sl->Rw->SR}{r:Rw}(g:DV->aa DV)(B:av): ∀(xs acc:aa DV) (j:J),(∀x∈xs,(g x).length<=B/\ ∀acc j,acc.length+B<9999-> ∃j',aW x (S acc j) r=.a (S (acc++g x) j') r)->
  acc.length+B*xs.length+B<9999-> ∃j',dH aW xs (S acc j) r=.a (S (acc++xs.flatMap g) j') r:=λo0=>by
 induction o0 with
 |nil=>exact λacc j U U=>⟨j,by show _=SR.a (S (acc++[]) j) r;rw[bI];rfl⟩
 |cons x xs ih=>
  intro acc j h hl
  rw[dq,Nat.mul_add]at hl
  obtain⟨hg,hs⟩:=h x<|.head _
  obtain⟨j1,e1⟩:=hs acc j<|aI (fF (c0 ..) B) hl
  obtain⟨j2,e2⟩:=ih (acc++g x) j1 (λy m=>h y<|.tail _ m) (by rw[aP];refine aI (fF ?_ B) hl;rw[jT,Nat.mul_one,nN (g x).length];exact bV (bV hg _) _)
  exact⟨j2,bq e1<|e2.trans (by rw[fK,eU])⟩
theorem YB{ct:av->Fn}{elt:Ex}{i j:av}{it tH:It}{δ:Dl}{r:Rw}{xs ys:aa DV}(g:DV->DV->DV)(hi:Au ct it δ r=.c xs r)(hx:xs.length<=99)(hy:ys.length<=99)(hj: ∀x∈xs,Au ct tH ((δ.set j none).set i<|some x) r=.c ys r)
  (hg: ∀x∈xs,∀y∈ys,dv ct elt (((δ.set j none).set i<|some x).set j<|some y) r=.c (g x y) r):dv ct (.mT elt i it j tH) δ r=.c (.c<|xs.flatMap λx=>ys.map<|g x) r:=by
 refine(bC hi).trans<|(aJ hx).trans ?_
 have:gn (λx r=>(Au ct tH ((δ.set j none).set i<|some x) r).bind λys r=>if ys.length<=99 then gn (λy r=>(dv ct elt (((δ.set j none).set i<|some x).set j<|some y) r).bind λv r=>.c [v] r) ys [] r else .d) xs [] r=.c ([]++xs.flatMap λx=>ys.map<|g x) r:=by
  refine sr (λx=>ys.map<|g x) [] λx m=>?_
  refine aK (bC<|hj x m)<|aK (aJ hy) ?_
  refine(sr (λy=>[g x y]) [] λy n=>by rw[bC<|hg x m y n]).trans ?_
  rw[lF];rfl
 rw[bC this];rfl
section
variable{r:Rw}
noncomputable def Zi(X D:DV)(cells:aa DV)(st:aL)(a4 a5:ag (aM×DV)):Sl:=[some (false,X),some (false,D),some (false,.c cells),some (false,.a st),a4,a5,none,none]
theorem uT{X D}{cells ps}{st e}(hst:0<=st/\st<=999)(he:1<=e/\e<=4)(hl:cells.length<=99)(hp:ps.length<=4)(ho: ∀p∈ps,xn e p)(hc: ∀p∈cells,p=.f\/ ∃i:aL,p=.a i)(a4 a5:ag (aM×DV)):
  bM (aB oA) [] io (Bd (Zi X D cells st a4 a5) [4,5] [.c ps,.a e]) r=.a (Zi X D (ps.flatMap λp=>cells.map λc=>eS c p st) (st*e) (some (false,.c ps))<|some (false,.a e)) r:=by
 have ss:=dX (bd (by decide) hst.1)<|bF hst.2 (by decide)
 have se:=dX (bd (by decide) he.1)<|bF he.2 (by decide)
 refine(ax (d:=.c<|ps.flatMap λp=>cells.map λc=>eS c p st) (r1:=r) rfl ?_).trans ?_
 ·refine YB (ys:=cells) (λp c=>eS c p st) (zK rfl) (ao hp (by decide)) hl (λx m=>zK rfl) λp hp c hcm=>?_
  rcases hc c hcm with rfl|⟨i,rfl⟩
  ·exact jz (DG (r1:=r) rfl) rfl
  ·rcases ho p hp with rfl|⟨j,j0,j1,rfl⟩
   ·exact jz (lZ (r1:=r) rfl<|zH (r1:=r) rfl) rfl
   ·exact jb (lZ (r1:=r) rfl<|qj (r1:=r) rfl rfl)<|cT (x:=.a i) (y:=.a<|j*st) (r1:=r) (r2:=r) rfl (cT (x:=.a j) (y:=.a st) (r1:=r) (r2:=r) rfl rfl<|je (dX (bd (by decide) j0)<|ra (bd j1 he.2) (by decide)) ss) rfl
 ·exact(ax (d:=.a<|st*e) (r1:=r) rfl<|cT (x:=.a st) (y:=.a e) (r1:=r) (r2:=r) rfl rfl<|je ss se).trans rfl
noncomputable def Zj(D X:DV)(steps found:aa DV)(k w a6 a7:ag (aM×DV)):Sl:=[some (false,D),some (false,X),some (false,.c steps),some (false,.c found),k,w,a6,a7]
theorem Ry{D X:DV}{steps found:aa DV}{k:av}{ps:aa DV}{xs:aa DV}{s e:aL}{b:DV}(hX:X=.c xs)(hk:xs[k]?=some (.c ps))(hs:steps[k]?=some (.a s))(hs0:0<=s/\s<=999)(he:e<=4)(hb:b=.f\/ ∃i:aL,b=.a i)(hp:ps.length<=4)(ho: ∀p∈ps,xn e p)
  {acc:aa DV} (ha:acc.length+4<9999) (a7:ag (aM×DV)):
  ∃IM,bM (aB iR) [5] i6 (Zj D X steps found (some (false,.a<|0+(k:aL))) (some (true,.c acc)) (some (false,b)) a7) r=.a (Zj D X steps found (some (false,.a<|0+(k:aL))) (some (true,.c<|acc++ps.map λp=>eS b p s)) (some (false,b)) IM) r:=by
 subst hX
 obtain⟨IM,e7⟩:=pL (r:=r) (S:=λacc (a7:ag (aM×DV))=>Zj D (.c xs) steps found (some (false,.a (0+(k:aL)))) (some (true,.c acc)) (some (false,b)) a7) (aW:=λx δ r=>bM (aB iR) [5] pF (di δ 7 x) r) (λp=>[eS b p s]) (λU=>bK _) ps acc a7 (λp m acc a7 hacc=>by
  refine⟨some (false,p),?_⟩
  rcases hb with rfl|⟨i,rfl⟩
  ·exact(dh (DG (r1:=r) rfl)<|(dk rfl rfl hacc).trans rfl).trans rfl
  ·rcases ho p m with rfl|⟨j,j0,j1,rfl⟩
   ·exact(dh (lZ (r1:=r) rfl<|zH (r1:=r) rfl)<|(dk rfl rfl hacc).trans rfl).trans rfl
   ·refine(fB (lZ (r1:=r) rfl (qj (r1:=r) rfl rfl)) ((dk rfl (cT (x:=.a i) (y:=.a (j*s)) (r1:=r) (r2:=r) rfl (cT (x:=.a j) (y:=.a s) (r1:=r) (r2:=r) rfl (ew (x:=.c steps) (y:=.a (0+(k:aL))) (r1:=r) (r2:=r) rfl rfl (jA hs)) (je (dX (bd (by decide) j0) (ra (bd j1 he) (by decide))) (dX (bd (by decide) hs0.1) (bF hs0.2 (by decide))))) rfl) hacc).trans rfl)).trans rfl) (aI (bV hp _) ha)
 rw[lF]at e7
 refine⟨IM,(nt (xs:=ps) (r1:=r) (ew (x:=.c xs) (y:=.a<|0+(k:aL)) (z:=.c ps) (r1:=r) (r2:=r) rfl rfl<|jA hk) rfl e7).trans rfl⟩
theorem uU{D X:DV}{steps found:aa DV}{k:av}{ps:aa DV}{xs:aa DV}{s e:aL}(hX:X=.c xs)(hk:xs[k]?=some (.c ps))(hs:steps[k]?=some (.a s))(hs0:0<=s/\s<=999)(he:e<=4)(hf: ∀b∈found,b=.f\/ ∃i:aL,b=.a i)(hfl:found.length<=99)(hp:ps.length<=4)(ho: ∀p∈ps,xn e p)
  (a4 w a6 a7:ag (aM×DV)):
  ∃w' Yy IM,bM (aB iR) [5] i7 (di (Zj D X steps found a4 w a6 a7) 4<|.a<|0+(k:aL)) r=.a (Zj D X steps (found.flatMap λb=>ps.map λp=>eS b p s) (some (false,.a<|0+(k:aL))) w' Yy IM) r:=by
 obtain⟨⟨Yy,IM⟩,e6⟩:=MQ (r:=r) (J:=ag (aM×DV)×ag (aM×DV)) (S:=λacc j=>Zj D X steps found (some (false,.a (0+(k:aL)))) (some (true,.c acc)) j.1 j.2) (aW:=λx δ r=>bM (aB iR) [5] i6 (di δ 6 x) r) (λb=>ps.map λp=>eS b p s) 4 found [] (a6,a7) (λb m=>⟨by rw[aw];exact hp,λacc j ha=>by
  refine bN (Ry (r:=r) (D:=D) (found:=found) hX hk hs hs0 he (hf b m) hp ho ha j.2) λIM q=>?_
  exact⟨(some (false,b),IM),q⟩⟩) (aI (fF (bV (ui 4 hfl) 0) 4) (by decide))
 rw[fO]at e6
 refine⟨some (false,.c<|found.flatMap λb=>ps.map λp=>eS b p s),Yy.map λp=>(false,p.2),IM.map λp=>(false,p.2),?_⟩
 refine(iT rfl rfl).trans ?_
 refine(nt (xs:=found) (r1:=r) (b:=i6) rfl rfl e6).trans ?_
 exact(wh rfl rfl rfl).trans rfl
theorem wo{found ps:aa DV}{s:aL}: ∀b∈found.flatMap (λb=>ps.map λp=>eS b p s),b=.f\/ ∃i:aL,b=.a i:=λb m=>by
 obtain⟨x,_,m⟩:=lJ.mp m
 obtain⟨p,_,CL⟩:=bb.mp m
 refine aK CL.symm ?_
 unfold eS
 cases IS x<;>cases IS p<;>first|exact .inl rfl|exact .inr ⟨_,rfl⟩
theorem Rz{found ps:aa DV}{s:aL}:(found.flatMap λb=>ps.map λp=>eS b p s).length=found.length*ps.length:=by
 induction found with
 |nil=>simp
 |cons b found ih=>rw[fK,aP,ih,aw,dq,acT,ty,nN]
theorem IT{x p A b:aL}(hx:0<=x/\x<A)(hp:0<=p/\p<b):0<=x+p*A/\x+p*A<A*b:=by
 have h1:p*A<=(b - 1)*A:=Int.mul_le_mul_of_nonneg_right (Int.le_sub_one_of_lt hp.2)<|ay hx.1<|bz hx.2
 have h2:0<=p*A:=Cn hp.1<|ay hx.1<|bz hx.2
 exact⟨tF hx.1 h2,bF (uj (ay h1<|f8 (by rw[Int.sub_mul,kB,Int.mul_comm]:(b - 1)*A=A*b - A)) x)<|bd (Int.add_lt_add_right hx.2 _)<|f8<|(rb ..).trans<|vt ..⟩
noncomputable def jH(dims:aa aL)(mA:aa (aa DV))(cells:aa DV):Prop:=
 (∀r,zw [.c<|dims.map .a,.c<|mA.map .c] r=.c (.c cells) r)/\(∀r,FZ [.c<|mA.map .c,.c<|dims.map .a] r=.c (.c cells) r)/\cells.length<=64/\ ∀p∈cells,xn (s6 dims) p
theorem xn.int(h:xn e p):p=.f\/ ∃i:aL,p=.a i:=h.imp id λ⟨i,_,_,h⟩=>⟨i,h⟩
theorem YC{c p:DV}{A b:aL}(hc:xn A c)(hp:xn b p):xn (A*b) (eS c p A):=by
 rcases hc with rfl|⟨x,x0,x1,rfl⟩
 ·exact .inl rfl
 ·rcases hp with rfl|⟨y,y0,y1,rfl⟩
  ·exact .inl rfl
  ·obtain⟨h1,h2⟩:=IT ⟨x0,x1⟩ ⟨y0,y1⟩
   exact .inr ⟨_,h1,h2,rfl⟩
noncomputable def stS(D:DV)(steps:aa DV)(st:aL)(o:ag (aM×DV)):Sl:=[some (false,D),some (true,.c steps),some (false,.a st),o]
theorem uV{D}{steps}{st e}{o}{r}(hs:gH st=true)(he:gH e=true)(hl:steps.length<9999):
  kN (aB we) [1] 3 ry (.a e) (stS D steps st o) r=.a (stS D (steps++[.a st]) (st*e)<|some (false,.a e)) r:=
 (dk rfl rfl hl).trans ((ax (d:=.a<|st*e) (r1:=r) rfl<|cT (x:=.a st) (y:=.a e) (r1:=r) (r2:=r) rfl rfl<|je hs he).trans rfl)
theorem RA{D}{xs ys}{st}{o}{r}(hD:D=.c xs)(h:dH (kN (aB we) [1] 3 ry) xs (stS D [] 1 none) r=.a (stS D ys st o) r):wf [D] r=.c (.c ys) r:=
 cg rfl ((iT rfl rfl).trans<|(ax rfl rfl).trans<|(nt (xs:=xs) (r1:=r) rfl (by rw[hD];rfl) h).trans<|bR rfl)
theorem qs(h:1<=a/\a<=4):gH a=true:=dX (bd (by decide) h.1)<|bF h.2 (by decide)
theorem RB{a b}(ha:1<=a/\a<=4)(hb:1<=b/\b<=4)(r:Rw):wf [.c [.a a,.a b]] r=.c (.c [.a 1,.a a]) r:=by
 have e1:=uV (D:=.c [.a a,.a b]) (steps:=[]) (o:=none) (r:=r) (qs ⟨fa 1,by decide⟩) (qs ha) (by decide)
 rw[kB]at e1
 exact RA rfl<|bq e1<|bq (uV (qs ha) (qs hb) (show 1<9999 by decide)) rfl
theorem RC{a b c}(ha:1<=a/\a<=4)(hb:1<=b/\b<=4)(hc:1<=c/\c<=4)(r:Rw):wf [.c [.a a,.a b,.a c]] r=.c (.c [.a 1,.a a,.a<|a*b]) r:=by
 have e1:=uV (D:=.c [.a a,.a b,.a c]) (steps:=[]) (o:=none) (r:=r) (qs ⟨fa 1,by decide⟩) (qs ha) (by decide)
 rw[kB]at e1
 exact RA rfl<|bq e1<|bq (uV (qs ha) (qs hb) (show 1<9999 by decide))<|bq (uV (dX (bd (by decide)<|Cn (ay (by decide) ha.1)<|ay (by decide) hb.1)<|bF (tC ha.2 hb.2 (ay (by decide) hb.1) (by decide)) (by decide)) (qs hc) (show 2<9999 by decide)) rfl
end
section
variable{r:Rw}
theorem xR: ∀c∈[DV.a 0],c=.f\/ ∃i,c=.a i:=λc m=>.inr ⟨0,bh.mp m⟩
theorem KR(ps:aa DV)(s:aL):(ps.flatMap λp=>[DV.a 0].map λc=>eS c p s)=ps.map λp=>eS (.a 0) p s:=by
 rw[←lF];rfl
theorem xS(ps:aa DV)(s:aL):([DV.a 0].flatMap λb=>ps.map λp=>eS b p s)=ps.map λp=>eS (.a 0) p s:=by
 rw[fK,Sy,bI]
theorem MR(ps1 ps2:aa DV)(a:aL):((ps2.map λp=>eS (.a 0) p a).flatMap λb=>ps1.map λp=>eS b p 1)=ps2.flatMap λp=>(ps1.map λp=>eS (.a 0) p 1).map λc=>eS c p a:=by
 rw[xA]
 congr 1
 funext p2
 rw[dj]
 exact cr λp1 U=>sy _ _ _ _ _
theorem Gf(ps1 ps2 ps3:aa DV)(a d:aL):(((ps3.map λp=>eS (.a 0) p d).flatMap λb=>ps2.map λp=>eS b p a).flatMap λb=>ps1.map λp=>eS b p 1)=
  ps3.flatMap λp=>(ps2.flatMap λp=>(ps1.map λp=>eS (.a 0) p 1).map λc=>eS c p a).map λc=>eS c p d:=by
 rw[xA,List.flatMap_assoc]
 congr 1
 funext p3
 rw[xA,List.map_flatMap]
 congr 1
 funext p2
 rw[dj,dj]
 refine cr λp1 U=>?_
 show eS (eS (eS (.a 0) p3 d) p2 a) p1 1=eS (eS (eS (.a 0) p1 1) p2 a) p3 d
 exact aK (sy (.a 0) p2 p3 d a)<|aK (sy (eS (.a 0) p2 a) p1 p3 d 1)<|aK (sy (.a 0) p1 p2 a 1) rfl
theorem uW{ps:aa DV}{a:aL}(h: ∀p∈ps,xn a p): ∀c∈ps.map (λp=>eS (.a 0) p 1),xn a c:=λc m=>by
 obtain⟨p,mp,mV⟩:=bb.mp m
 refine aK mV.symm ?_
 rcases h p mp with rfl|⟨i,i0,i1,rfl⟩
 ·exact .inl rfl
 ·refine .inr ⟨0+i*1,?_,?_,rfl⟩<;>rw[Ae,ir]<;>assumption
theorem DR{cells ps:aa DV}{A b:aL}(hc: ∀c∈cells,xn A c)(hp: ∀p∈ps,xn b p): ∀c∈ps.flatMap (λp=>cells.map λc=>eS c p A),xn (A*b) c:=λc m=>by
 obtain⟨p,mp,m⟩:=lJ.mp m
 obtain⟨c,mc,CL⟩:=bb.mp m
 refine aK CL.symm ?_
 exact YC (hc c mc)<|hp p mp
theorem wq{cells ps:aa DV}{s:aL}:(ps.flatMap λp=>cells.map λc=>eS c p s).length=ps.length*cells.length:=by
 induction ps with
 |nil=>simp
 |cons p ps ih=>rw[fK,aP,ih,aw,dq,acT];lia
theorem abO:fQ [.a 1,.a (-1),.a (-1)]=some ([1,0].map λ(k:av)=>.a<|0+(k:aL)):=rfl
theorem abP:fQ [.a 2,.a (-1),.a (-1)]=some ([2,1,0].map λ(k:av)=>.a<|0+(k:aL)):=rfl
theorem DT{a b:aL}(ha:1<=a/\a<=4)(hb:1<=b/\b<=4){p1 p2:aa DV}(l1:p1.length<=4)(l2:p2.length<=4)(h1: ∀p∈p1,xn a p)(h2: ∀p∈p2,xn b p): ∃cells,jH [a,b] [p1,p2] cells:=by
 refine⟨p2.flatMap λp=>(p1.map λp=>eS (.a 0) p 1).map λc=>eS c p a,λr=>?_,λr=>?_,?_,?_⟩
 ·refine A9 (uU (r:=r) (D:=.c [.a a,.a b]) (X:=.c [.c p1,.c p2]) (steps:=[.a 1,.a a]) (found:=[.a 0]) (k:=1) (ps:=p2) (s:=a) (e:=b) rfl rfl rfl (⟨bz (mD.left (by assumption)),ay (mD.right (by assumption)) (by decide)⟩) hb.2 xR (by simp) l2 h2 none none none none) λw1 x1 y1 e1=>?_
  rw[xS]at e1
  refine aU λG9 k9=>?_
  obtain⟨w2,x2,y2,e2⟩:=uU (r:=r) (D:=.c [.a a,.a b]) (X:=.c [.c p1,.c p2]) (steps:=[.a 1,.a a]) (found:=p2.map λp=>eS (.a 0) p a) (k:=0) (ps:=p1) (s:=1) (e:=a) rfl rfl rfl (by decide) ha.2 (by rw[←xS];exact wo) (by rw[aw];exact ao (by assumption) (by decide)) l1 h1 (some (false,.a<|0+((1:av):aL))) w1 x1 y1
  refine k9 ?_
  rw[MR]at e2
  refine cg rfl ?_
  refine(ax (d:=.c [.a 1,.a a]) (r1:=r) rfl<|bu (f:=53) (vs:=[.c [.a a,.a b]]) (r1:=r) (aV rfl rfl)<|RB ha hb r).trans ?_
  refine(ax (d:=.c [.a 0]) (r1:=r) rfl rfl).trans ?_
  refine(rM (r1:=r) (b:=i7) (ys:=[.a 1,.a (-1),.a (-1)]) rfl abO<|bq e1<|bq e2 rfl).trans<|bR rfl
 ·have e1:=uT (r:=r) (X:=.c [.c p1,.c p2]) (D:=.c [.a a,.a b]) (cells:=[.a 0]) (ps:=p1) (st:=1) (e:=a) (by decide) ha (by simp) l1 h1 xR none none
  rw[KR,kB]at e1
  have e2:=uT (r:=r) (X:=.c [.c p1,.c p2]) (D:=.c [.a a,.a b]) (cells:=p1.map λp=>eS (.a 0) p 1) (ps:=p2) (st:=a) (e:=b) (⟨bz (mD.left (by assumption)),ay (mD.right (by assumption)) (by decide)⟩) hb (by rw[aw];exact ao (by assumption) (by decide)) l2 h2 (λc m=>(uW h1 c m).int) (some (false,.c p1))<|some (false,.a a)
  refine cg rfl ?_
  refine(ax (d:=.c [.a 0]) (r1:=r) rfl rfl).trans ?_
  refine(ax (d:=.a 1) (r1:=r) rfl rfl).trans ?_
  exact(Rt (b:=io) (xs:=[.c p1,.c p2]) (ys:=[.a a,.a b]) (r1:=r) (r2:=r) rfl rfl (by simp) (bq e1 (bq e2 rfl):dH (sv (aB oA) [] [4,5] io) (([DV.c p1,.c p2].zip [.a a,.a b]).map λp=>DV.g [p.1,p.2]) (Zi (.c [.c p1,.c p2]) (.c [.a a,.a b]) [.a 0] 1 none none) r=.a (Zi (.c [.c p1,.c p2]) (.c [.a a,.a b]) _ _ _ _) r)).trans<|bR rfl
 ·refine aK wq ?_
  rw[aw]
  have:p2.length*p1.length<=4*4:=oN l2 l1
  exact ao (by assumption) (by decide)
 ·have:s6 [a,b]=a*b:=by show 1*a*b=_;rw[kB]
  refine aK this ?_
  exact DR (uW h1) h2
theorem DU{a b d:aL}(ha:1<=a/\a<=4)(hb:1<=b/\b<=4)(hd:1<=d/\d<=4){p1 p2 p3:aa DV}(l1:p1.length<=4)(l2:p2.length<=4)(l3:p3.length<=4)(h1: ∀p∈p1,xn a p)(h2: ∀p∈p2,xn b p)(h3: ∀p∈p3,xn d p): ∃cells,jH [a,b,d] [p1,p2,p3] cells:=by
 have hab:0<=a*b/\a*b<=16:=⟨Cn (bz (mD.left (by assumption))) (bz (mD.left (by assumption))),by
  have:a*b<=4*4:=tC ha.2 hb.2 (bz<|mD.left (by assumption)) (by decide)
  assumption⟩
 have lc:(p2.flatMap λp=>(p1.map λp=>eS (.a 0) p 1).map λc=>eS c p a).length<=16:=by
  refine aK wq ?_
  rw[aw]
  exact oN l2 l1
 refine⟨p3.flatMap λp=>(p2.flatMap λp=>(p1.map λp=>eS (.a 0) p 1).map λc=>eS c p a).map λc=>eS c p<|a*b,λr=>?_,λr=>?_,?_,?_⟩
 ·refine A9 (uU (r:=r) (D:=.c [.a a,.a b,.a d]) (X:=.c [.c p1,.c p2,.c p3]) (steps:=[.a 1,.a a,.a<|a*b]) (found:=[.a 0]) (k:=2) (ps:=p3) (s:=a*b) (e:=d) rfl rfl rfl (⟨mD.left (by assumption),ay (mD.right (by assumption)) (by decide)⟩) hd.2 xR (by simp) l3 h3 none none none none) λw0 x0 y0 e0=>?_
  rw[xS]at e0
  refine aU λG9 k9=>?_
  obtain⟨w1,x1,y1,e1⟩:=uU (r:=r) (D:=.c [.a a,.a b,.a d]) (X:=.c [.c p1,.c p2,.c p3]) (steps:=[.a 1,.a a,.a<|a*b]) (found:=p3.map λp=>eS (.a 0) p<|a*b) (k:=1) (ps:=p2) (s:=a) (e:=b) rfl rfl rfl (⟨bz (mD.left (by assumption)),ay (mD.right (by assumption)) (by decide)⟩) hb.2 (by rw[←xS];exact wo) (by rw[aw];exact ao (by assumption) (by decide)) l2 h2 (some (false,.a<|0+((2:av):aL))) w0 x0 y0
  refine k9 ?_
  obtain⟨w2,x2,y2,e2⟩:=uU (r:=r) (D:=.c [.a a,.a b,.a d]) (X:=.c [.c p1,.c p2,.c p3]) (steps:=[.a 1,.a a,.a (a*b)]) (found:=(p3.map λp=>eS (.a 0) p (a*b)).flatMap λb=>p2.map λp=>eS b p a) (k:=0) (ps:=p1) (s:=1) (e:=a) rfl rfl rfl (by decide) ha.2 wo (by
   refine aK Rz ?_
   rw[aw]
   have:p3.length*p2.length<=4*4:=oN l3 l2
   exact ao (by assumption) (by decide)) l1 h1 (some (false,.a (0+((1:av):aL)))) w1 x1 y1
  rw[Gf]at e2
  refine cg rfl ?_
  refine(ax (d:=.c [.a 1,.a a,.a<|a*b]) (r1:=r) rfl<|bu (f:=53) (vs:=[.c [.a a,.a b,.a d]]) (r1:=r) (aV rfl rfl)<|RC ha hb hd r).trans ?_
  refine(ax (d:=.c [.a 0]) (r1:=r) rfl rfl).trans ?_
  refine(rM (r1:=r) (b:=i7) (ys:=[.a 2,.a (-1),.a (-1)]) rfl abP<|bq e0<|bq e1<|bq e2 rfl).trans<|bR rfl
 ·have e1:=uT (r:=r) (X:=.c [.c p1,.c p2,.c p3]) (D:=.c [.a a,.a b,.a d]) (cells:=[.a 0]) (ps:=p1) (st:=1) (e:=a) (by decide) ha (by simp) l1 h1 xR none none
  rw[KR,kB]at e1
  have e2:=uT (r:=r) (X:=.c [.c p1,.c p2,.c p3]) (D:=.c [.a a,.a b,.a d]) (cells:=p1.map λp=>eS (.a 0) p 1) (ps:=p2) (st:=a) (e:=b) (⟨bz (mD.left (by assumption)),ay (mD.right (by assumption)) (by decide)⟩) hb (by rw[aw];exact ao (by assumption) (by decide)) l2 h2 (λc m=>(uW h1 c m).int) (some (false,.c p1))<|some (false,.a a)
  have e3:=uT (r:=r) (X:=.c [.c p1,.c p2,.c p3]) (D:=.c [.a a,.a b,.a d]) (cells:=p2.flatMap λp=>(p1.map λp=>eS (.a 0) p 1).map λc=>eS c p a) (ps:=p3) (st:=a*b) (e:=d) (⟨mD.left (by assumption),ay (mD.right (by assumption)) (by decide)⟩) hd (ao (by assumption) (by decide)) l3 h3 (λc m=>(DR (uW h1) h2 c m).int) (some (false,.c p2))<|some (false,.a b)
  refine cg rfl ?_
  refine(ax (d:=.c [.a 0]) (r1:=r) rfl rfl).trans ?_
  refine(ax (d:=.a 1) (r1:=r) rfl rfl).trans ?_
  exact(Rt (b:=io) (xs:=[.c p1,.c p2,.c p3]) (ys:=[.a a,.a b,.a d]) (r1:=r) (r2:=r) rfl rfl (by simp) (bq e1 (bq e2<|bq e3 rfl):dH (sv (aB oA) [] [4,5] io) (([DV.c p1,.c p2,.c p3].zip [.a a,.a b,.a d]).map λp=>DV.g [p.1,p.2]) (Zi (.c [.c p1,.c p2,.c p3]) (.c [.a a,.a b,.a d]) [.a 0] 1 none none) r=.a (Zi (.c [.c p1,.c p2,.c p3]) (.c [.a a,.a b,.a d]) _ _ _ _) r)).trans<|bR rfl
 ·refine aK wq ?_
  have:p3.length*(p2.flatMap λp=>(p1.map λp=>eS (.a 0) p 1).map λc=>eS c p a).length<=4*16:=oN l3 lc
  assumption
 ·have:s6 [a,b,d]=a*b*d:=by show 1*a*b*d=_;rw[kB]
  refine aK this ?_
  exact DR (DR (uW h1) h2) h3
theorem rR(h:B1 (e::es) mA): ∃ps t,mA=ps::t/\(ps.length<=4/\ ∀p∈ps,xn e p)/\B1 es t:=by
 cases mA with
 |nil=>exact h.elim
 |cons ps t=>exact⟨ps,t,rfl,h.1,h.2⟩
theorem Gg: ∀{dims:aa aL} {mA:aa (aa DV)},l0 dims->B1 dims mA-> ∃cells,jH dims mA cells
 |dims,mA,hd,hp=>by
  rcases hd with⟨a,b,a1,a2,b1,b2,rfl⟩|⟨a,b,c,a1,a2,b1,b2,c1,c2,rfl⟩
  ·obtain⟨p1,t,yt,q1,hp⟩:=rR hp
   refine aK yt ?_
   obtain⟨p2,t,oS,q2,hp⟩:=rR hp
   refine aK oS ?_
   cases t with
   |nil=>exact DT (⟨by assumption,ay (by assumption) (by decide)⟩) (⟨by assumption,by assumption⟩) q1.1 q2.1 q1.2 q2.2
   |cons=>exact hp.elim
  ·obtain⟨p1,t,PG,q1,hp⟩:=rR hp
   refine aK PG ?_
   obtain⟨p2,t,CG,q2,hp⟩:=rR hp
   refine aK CG ?_
   obtain⟨p3,t,yr,q3,hp⟩:=rR hp
   refine aK yr ?_
   cases t with
   |nil=>exact DU (⟨by assumption,ay (by assumption) (by decide)⟩) (⟨by assumption,by assumption⟩) (⟨by assumption,ay (by assumption) (by decide)⟩) q1.1 q2.1 q3.1 q1.2 q2.2 q3.2
   |cons=>exact hp.elim
end
noncomputable def AY(k:aa av):Nat:=if k=bt then 0 else if k=bg then 1 else if k=bk then 2 else 3
noncomputable def nw(k:aa av)(x:DV)(to:aa av)(y:DV):Prop:=(∀r,ja [.d k,x,.d to,.c []] r=.c y r)/\(∀r,rI [.d k,x,.d to] r=.c y r)/\gJ to y
noncomputable def sz:Prop:= ∀x,KA x-> ∃l,l.length<=999/\(∀r,ja [.d bk,x,.d aG,.c []] r=.c (.d l) r)/\ ∀r,rI [.d bk,x,.d aG] r=.c (.d l) r
theorem IU: ∀i:aL,-15<=i->i<=24->(aQ i).length<=99:=by
 have h:((bp 40).all λj=>decide<|(aQ<|(j:aL) - 15).length<=99)=true:=by decide+kernel
 intro i h1 h2
 have h0:0<=i+15:=cN h1 15
 have:=aF.mp h (i+15).toNat<|bE.mpr<|(G8 h0).mpr<|bF (cN h2 15) (by decide)
 rw[show(((i+15).toNat:aL) - 15)=i by rw[hU h0,jZ]]at this
 exact ah this
theorem zU(h:gH i=true)(hl:(aQ i).length<=9999):SH .str [.a i]=some (.d<|aQ i):=by
 show gL (gH i&&decide ((aQ i).length<=9999)) _=_
 rw[h,ab hl];rfl
theorem bc.RD{α:Type}{a b:α}{r s:Rw}(h:bc.c a r=bc.c b s):a=b:=by cases h;rfl
theorem rS{k:aa av}(h:k∈bQ)(r:Rw):rL [.d k] r=.c (.j false) r:=fm (P:=λk=>rL [.d k] r=.c (.j false) r) h rfl rfl rfl rfl
section
variable{ct:av->Fn}{mu:aa av}{ss:ig}{δ:Sl}{r r1 r2:Rw}{es:n8}{vs:aa DV}{d x kd it:DV}{f j:av}{o ke ie:Ex}{p:aM×DV}
theorem U2(hf:tJ f=true)(h:mE ct es (b4 δ) r=.c vs r1)(hc:ct f vs r1=.c d r2):bM ct mu (.a (.f<|.h f es) ss) δ r=.g d r2:=by
 refine xN<|(aJ hf).trans ?_
 refine aK h ?_
 show bc.fZ (ct f vs r1) _=_
 refine aK hc ?_
 rfl
theorem U3(hl:tK ie=true)(h1:dv ct ke (bU δ) r=.c kd r1)(h2:dv ct ie (bU δ) r1=.c it r2)(hj:δ[j]?=some (some p))(ok:(cA p.2||(p.1&&p.2.dN.isSome))=true):
  bM ct mu (.a (.f<|.A 0<|.a ke<|.a ie<|.a (.b j) .b) ss) δ r=.g (jD kd it p.2) r2:=by
 refine xN<|(aJ hl).trans ?_
 refine aK h1 ?_
 show bc.fZ (dv ct ie (bU δ) r1) _=_
 refine aK h2 ?_
 show dO (δ[j]?.bind id) _=_
 refine aK hj ?_
 exact aJ ok
end
theorem MS(hk:k∈bQ)(hx:gJ k x):nw k x k x:=by
 refine⟨λr=>?_,λr=>?_,hx⟩
 ·exact fm (P:=λk=>ja [.d k,x,.d k,.c []] r=.c x r) hk rfl rfl rfl rfl
 ·exact fm (P:=λk=>rI [.d k,x,.d k] r=.c x r) hk rfl rfl rfl rfl
theorem YD(h: -100<=i/\i<=199):gJ bk (.g [.a i,.a 1]):=.inr<|.inr<|.inr<|.inl ⟨rfl,i,1,rfl,.inr<|.inl ⟨rfl,h⟩⟩
theorem xT(h:l.length<=999):gJ aG (.d l):=.inr<|.inr<|.inr<|.inr ⟨rfl,l,rfl,h⟩
theorem zV(h:gJ bt x):x=.f\/x=.a 0\/x=.a 1:=by
 rcases h with h|⟨_,h⟩|⟨h,_⟩|⟨h,_⟩|⟨h,_⟩<;>first|exact .inl h|exact .inr h|(exact absurd h (by decide))
theorem Gh(h:gJ bg x):x=.f\/ ∃i:aL,x=.a i/\ -15<=i/\i<=24:=by
 rcases h with h|⟨h,_⟩|⟨_,h⟩|⟨h,_⟩|⟨h,_⟩<;>first|exact .inl h|exact .inr h|(exact absurd h (by decide))
theorem RF(h:gJ bk x):x=.f\/KA x:=by
 rcases h with h|⟨h,_⟩|⟨h,_⟩|⟨_,h⟩|⟨h,_⟩<;>first|exact .inl h|exact .inr h|(exact absurd h (by decide))
theorem U4(hD:sz)(hk:k∈bQ)(ht:to∈bQ)(ho:AY k<=AY to)(hx:gJ k x): ∃y,nw k x to y:=by
 by_cases hkt:k=to
 ·subst hkt;exact⟨x,MS hk hx⟩
 simp only[bQ,a0,gh,sB]at hk ht
 rcases hk with rfl|rfl|rfl|rfl<;>rcases ht with rfl|rfl|rfl|rfl
 all_goals first
  |exact absurd rfl hkt
  |exact absurd ho (by decide)
  |skip
 ·rcases zV hx with rfl|rfl|rfl
  ·exact⟨.f,λr=>rfl,λr=>rfl,.inl rfl⟩
  ·exact⟨.a 0,λr=>rfl,λr=>rfl,.inr<|.inr<|.inl ⟨rfl,0,rfl,by decide,by decide⟩⟩
  ·exact⟨.a 1,λr=>rfl,λr=>rfl,.inr<|.inr<|.inl ⟨rfl,1,rfl,by decide,by decide⟩⟩
 ·rcases zV hx with rfl|rfl|rfl
  ·exact⟨.f,λr=>rfl,λr=>rfl,.inl rfl⟩
  ·exact⟨.g [.a 0,.a 1],λr=>rfl,λr=>rfl,YD (by decide)⟩
  ·exact⟨.g [.a 1,.a 1],λr=>rfl,λr=>rfl,YD (by decide)⟩
 ·rcases zV hx with rfl|rfl|rfl
  ·exact⟨.f,λr=>rfl,λr=>rfl,.inl rfl⟩
  ·exact⟨.d Do,λr=>rfl,λr=>rfl,xT (by decide)⟩
  ·exact⟨.d tZ,λr=>rfl,λr=>rfl,xT (by decide)⟩
 ·rcases Gh hx with rfl|⟨i,rfl,h1,h2⟩
  ·exact⟨.f,λr=>rfl,λr=>rfl,.inl rfl⟩
  ·exact⟨.g [.a i,.a 1],λr=>rfl,λr=>rfl,YD<|⟨ay (by decide:(-100:aL)<= -15) (by assumption),ay (by assumption) (by decide)⟩⟩
 ·rcases Gh hx with rfl|⟨i,rfl,h1,h2⟩
  ·exact⟨.f,λr=>rfl,λr=>rfl,.inl rfl⟩
  ·have hl:=IU i h1 h2
   have hb:=zU (i:=i) (dX (bd (by decide:(-1000000000000000000:aL)< -15) (by assumption))<|bF (by assumption) (by decide))<|ao (by assumption) (by decide)
   refine⟨.d<|aQ i,λr=>?_,λr=>?_,xT<|ao (by assumption) (by decide)⟩
   ·have ht:BR [.d bg,.a i] r=.c (.d<|aQ i) r:=cg rfl<|(aH rfl).trans<|(aH rfl).trans<|cQ rfl<|bR<|pJ (vs:=[.a i]) (r1:=r) rfl hb
    exact cg rfl<|(aH rfl).trans<|(aH rfl).trans<|(aH rfl).trans<|(aH rfl).trans<|(aH rfl).trans<|(aH rfl).trans<|bR<|bu (f:=41) (vs:=[.d bg,.a i]) (r1:=r) rfl ht
   ·have ht:pH [.d bg,.a i] r=.c (.d<|aQ i) r:=cg rfl<|(aH rfl).trans<|(aH rfl).trans<|cQ rfl<|bR<|pJ (vs:=[.a i]) (r1:=r) rfl hb
    exact cg rfl<|(aH rfl).trans<|cQ rfl<|bR<|bu (f:=5) (vs:=[.d bg,.a i]) (r1:=r) rfl ht
 ·rcases RF hx with rfl|hd
  ·exact⟨.f,λr=>rfl,λr=>rfl,.inl rfl⟩
  ·refine bN (hD x hd) λl h9=>n7 h9 λhl h1 h2=>?_
   exact⟨.d l,h1,h2,xT hl⟩
section
variable{k to:aa av}{its:aa DV}{cx:DV}{g:DV->DV}
theorem zX(hk:k∈bQ)(ht:to∈bQ)(hn: ∀r,jF [aS (.d k) its cx] r=.c .f r)(hc: ∀x∈its,∀r,ja [.d k,x,.d to,.c []] r=.c (g x) r)(r:Rw):
  oE [aS (.d k) its cx,.d to,.c []] r=.c (.c<|its.map g) r:=by
 have hB:gi (aB gz) (.f .Eq (.l (.b 0) 0)<|.b 1) (b4 [some (false,aS (.d k) its cx),some (false,.d to),some (false,.c [])]) r=.c (decide<|k=to) r:=rfl
 by_cases hkt:k=to
 ·subst hkt
  rw[ab rfl]at hB
  have hg:its.map g=its:=by
   conv=>rhs;rw[←f6 its]
   refine cr λx m=>?_
   have h1:=hc x m r
   rw[fm (P:=λk=>ja [.d k,x,.d k,.c []] r=.c x r) hk rfl rfl rfl rfl]at h1
   exact(bc.RD h1).symm
  refine aK hg ?_
  exact cg rfl<|cQ (DG hB)<|bR rfl
 ·rw[al hkt]at hB
  have hak:Mv [aS (.d k) its cx,.d to,.c []] r=.c (aS (.d to) (its.map g) .f) r:=by
   have hne:gi (aB wb) (.f .NotEq (.l (.b 0) 0)<|.b 1) (b4 [some (false,aS (.d k) its cx),some (false,.d to),some (false,.c []),some (false,.c its),none]) r=.c (!decide (k=to)) r:=rfl
   rw[al hkt]at hne
   have hm:dv (aB wb) (.v (.h 43<|.a (.l (.b 0) 0)<|.a (.b 4)<|.a (.b 1)<|.a (.b 2) .b) 4 (.a<|.l (.b 0) 1) .b) (bU [some (false,aS (.d k) its cx),some (false,.d to),some (false,.c []),some (false,.c its),none]) r=.c (.c<|its.map g) r:=
    wV g (zK rfl) λx m=>bu (f:=43) (vs:=[.d k,x,.d to,.c []]) (r1:=r) rfl<|hc x m r
   refine cg rfl<|(aH rfl).trans<|(ax (d:=.c its) (r1:=r) rfl rfl).trans<|(dh (iZ:=[some (false,aS (.d k) its cx),some (false,.d to),some (false,.c []),some (false,.c<|its.map g),none]) (r2:=r) hne<|(ax rfl hm).trans rfl).trans<|bR ?_
   exact bu (f:=44) (vs:=[aS (.d to) (its.map g) .f,.f]) (r1:=r) (aV (x:=aS (.d to) (its.map g) .f) (r1:=r) rfl<|aV (bu (f:=20) (vs:=[aS (.d k) its cx]) (r1:=r) rfl<|hn r) rfl) rfl
  have hl:gi (aB gz) (.h 54<|.a (.b 1) .b) (b4 [some (false,aS (.d k) its cx),some (false,.d to),some (false,.c [])]) r=.c false r:=Q6 (x:=.j false) (vs:=[.d to]) (r1:=r) (r2:=r) rfl (rS ht r) rfl
  refine cg rfl<|(aH<|lZ hB<|qj (jc (Q6 (x:=.j false) (vs:=[.d k]) (r1:=r) (r2:=r) rfl (rS hk r) rfl:gi (aB gz) (.h 54<|.a (.l (.b 0) 0) .b) (b4 [some (false,aS (.d k) its cx),some (false,.d to),some (false,.c [])]) r=.c false r)) rfl).trans<|(aH hl).trans<|bR ?_
  have:=bu (ct:=aB gz) (f:=45) (es:=.a (.b 0)<|.a (.b 1)<|.a (.b 2) .b) (δ:=b4 [some (false,aS (.d k) its cx),some (false,.d to),some (false,.c [])]) (vs:=[aS (.d k) its cx,.d to,.c []]) (r:=r) (r1:=r) rfl hak
  exact zG this rfl
theorem Gi{es}(hk:k∈bQ)(ht:to∈bQ)(hn: ∀r,jF [aS (.d k) its<|.h es] r=.c .f r)(hc: ∀x∈its,∀r,ja [.d k,x,.d to,.c []] r=.c (g x) r)(r:Rw):
  QY [aS (.d k) its<|.h es,.d to,.c []] r=.c (aS (.d to) (its.map g)<|.h es) r:=by
 have hB:gi (aB zy) (.f .Eq (.l (.b 0) 0)<|.b 1) (b4 [some (false,aS (.d k) its<|.h es),some (false,.d to),some (false,.c []),none]) r=.c (decide<|k=to) r:=rfl
 by_cases hkt:k=to
 ·subst hkt
  rw[ab rfl]at hB
  have hg:its.map g=its:=by
   conv=>rhs;rw[←f6 its]
   refine cr λx m=>?_
   have h1:=hc x m r
   rw[fm (P:=λk=>ja [.d k,x,.d k,.c []] r=.c x r) hk rfl rfl rfl rfl]at h1
   exact(bc.RD h1).symm
  refine aK hg ?_
  exact Q4 rfl<|xN<|(zC hB).trans<|U2 (f:=16) rfl rfl (show abz [aS (.d k) its<|.h es] r=.c _ r from rfl)
 ·rw[al hkt]at hB
  refine Q4 rfl<|(aH hB).trans<|(ax (d:=.f) (r1:=r) rfl rfl).trans<|(dh (iZ:=[some (false,aS (.d k) its<|.h es),some (false,.d to),some (false,.c []),some (true,.h es)]) (r2:=r) rfl<|(iT rfl rfl).trans rfl).trans ?_
  exact U3 (kd:=.d to) (it:=.c<|its.map g) (r1:=r) (p:=(true,.h es)) rfl rfl (pJ (vs:=[.c<|its.map g]) (r1:=r) (aV (bu (ct:=aB zy) (f:=58) (es:=.a (.b 0)<|.a (.b 1)<|.a (.b 2) .b) (δ:=bU [some (false,aS (.d k) its<|.h es),some (false,.d to),some (false,.c []),some (true,.h es)]) (vs:=[aS (.d k) its<|.h es,.d to,.c []]) (r:=r) (r1:=r) rfl<|zX hk ht hn hc r) rfl) rfl) rfl rfl
end
noncomputable def jp(k kv:aa av):aa Nat:=if AY k<=AY kv then kv else k
theorem KU{k kv:aa av}(h:k∈bQ)(h2:kv∈bQ):jp k kv∈bQ/\AY k<=AY (jp k kv)/\AY kv<=AY (jp k kv):=by
 unfold jp
 split
 ·exact⟨h2,by assumption,bK _⟩
 ·exact⟨h,bK _,by lia⟩
noncomputable def lu(pl its xs:aa DV)(i:av):ag (aa DV):=
 (pl[i]?).bind λp=>if cA p=true then some xs else p.cZ.bind λk=>(its[i%its.length]?).bind λit=>if 0<=k/\k<xs.length then some (xs.set k.toNat it) else none
noncomputable def kq(pl its:aa DV):aa av->aa DV->ag (aa DV)
 |[],xs=>some xs
 |i::is,xs=>(lu pl its xs i).bind λys=>kq pl its is ys
theorem t8(h:kq pl its (i::is) xs=some zs): ∃ys,lu pl its xs i=some ys/\kq pl its is ys=some zs:=eA.mp h
theorem wY(h:lu pl its xs i=some ys):kq pl its (i::is) xs=kq pl its is ys:=aE (xb · λys=>kq pl its is ys) h
theorem DW(h:pl[i]?=some .f):lu pl its xs i=some xs:=by unfold lu;rw[h];rfl
theorem Gj(h:pl[i]?=some (.a k))(hi:its[i%its.length]?=some it)(hb:0<=k/\k<xs.length):lu pl its xs i=some (xs.set k.toNat it):=by
 unfold lu
 refine aK h ?_
 show(its[i%its.length]?).bind _=_
 refine aK hi ?_
 exact aJ hb
inductive afl(pl its xs:aa DV)(i:av)(ys:aa DV):Prop
 |none (h:pl[i]?=some .f) (e:ys=xs)
 |int {k:aL} {it:DV} (h:pl[i]?=some (.a k)) (hi:its[i%its.length]?=some it) (h0:0<=k) (h1:k<xs.length) (e:ys=xs.set k.toNat it)
theorem rT(h:lu pl its xs i=some ys):afl pl its xs i ys:=by
 obtain⟨p,e,h⟩:=eA.mp h
 cases p with
 |f=>exact .none e (am h).symm
 |a k=>
  obtain⟨it,e2,h⟩:=eA.mp h
  by_cases q:0<=k/\k<xs.length
  ·exact .int e e2 q.1 q.2 (am<|(aJ q).symm.trans h).symm
  ·exact nn<|(aN q).symm.trans h
 |_=>exact nn h
section
variable{ct:av->Fn}{mu:aa av}{ss:ig}{δ:Sl}{r r1 r2:Rw}{es:n8}{vs:aa DV}{d d2 k it cx q y:DV}{f i j:av}{ie:Ex}{m:aa av}
theorem abQ(hl:args.length=I.ps.length)(h:bM ct I.mu I.body (Cv I args) r=x):Ls ct I args r=Tl x:=(aJ hl).trans<|aE Tl h
theorem abR(hf:rf f=true)(ho:δ[i]?=some (some (true,d)))(h:mE ct es (bU δ) r=.c vs r1)(hc:ct f (d::vs) r1=.c d2 r2):bM ct mu (.a (.d<|.h f<|.a (.b i) es) ss) δ r=bM ct mu ss (gI δ i d2) r2:=by
 refine dE<|(aJ hf).trans ?_
 show dO (dJ δ i) (λd=>(mE ct es (bU δ) r).fZ λvs r=>(ct f (d::vs) r).fZ λd r=>.a (gI δ i d) r)=_
 refine aK (lY ho)<|aK h ?_
 show bc.fZ (ct f (d::vs) r1) _=_
 refine aK hc ?_
 rfl
theorem U5(hf:rf f=false)(h:dv ct (.h f es) (bU δ) r=.c .f r1):bM ct mu (.a (.d<|.h f es) ss) δ r=bM ct mu ss δ r1:=by
 refine dE<|(aN λz=>ff<|hf.symm.trans z).trans ?_
 refine aK (gB h) ?_
 rfl
theorem Gk(hf:rf f=false)(h:dv ct (.h f es) (bU δ) r=.e m r1):bM ct mu (.a (.d<|.h f es) ss) δ r=.c m r1:=by
 refine my<|(aN λz=>ff<|hf.symm.trans z).trans ?_
 refine aK (zA h) ?_
 rfl
theorem MT(hj:dJ δ j=none)(h:fM (bU δ) j=some d)(ho:δ[i]?=some (some (true,jD k it cx)))(hi:dv ct ie (bU δ) r=.c q r1)(hp:(it.bW.bind λU=>oR it q d)=some y):
  bM ct mu (.a (.h (.l (.b i) 1) ie<|.b j) ss) δ r=bM ct mu ss (gI δ i<|jD k y cx) r1:=by
 refine dE ?_
 have e:Av (.b j) δ=δ:=Be hj
 show wD (dv ct<|.b j) (dv ct ie) i 1 (Av (.b j) δ) r=_
 refine aK e ?_
 unfold wD
 refine aK (lY ho) ?_
 show bc.fZ (bc.fG (fM (bU δ) j) r) _=_
 refine aK h ?_
 show bc.fZ (dv ct ie (bU δ) r) _=_
 refine aK hi ?_
 show dO (it.bW.bind λU=>oR it q d) _=_
 refine aK hp ?_
 rfl
end
section
variable{k:aa av}{cells its xs ys:aa DV}{cx:DV}{o5 o6:O}{r:Rw}
noncomputable def ptS(k:aa av)(cells its xs:aa DV)(cx:DV)(o5 o6:O):Sl:=[some (true,aS (.d k) xs cx),P<|.c cells,P<|.c its,P<|.a its.length,P<|.j false,o5,o6]
noncomputable abbrev ptT:=bM (aB oF) []
theorem RG(h:lu cells its xs j=some ys): ∃o6',ptT qh (ptS k cells its xs cx (P<|.a<|0+(j:aL)) o6) r=.a (ptS k cells its ys cx (P<|.a<|0+(j:aL)) o6') r:=by
 cases rT h with
 |none hc e=>
  refine aK e ?_
  exact⟨o6,aH<|dz (x:=.f) (y:=.f) (r1:=r) (r2:=r) (ew (r1:=r) (r2:=r) rfl rfl<|jA hc) rfl rfl⟩
 |@int i it hc hi h0 h1 e=>
  refine aK e ?_
  have hm:(0+(j:aL)).fmod its.length=0+((j%its.length:av):aL):=by
   rw[ir,ir]
   refine aK (bZ _<|ba _) ?_
   rw[lS]
  have hl:(its.length:aL)≠0:=λz=>by
   cases its with
   |nil=>exact nn hi
   |cons _ _=>exact absurd z (by rw[dq];lia)
  refine⟨P it,dh (r1:=r) (dz (x:=.a i) (y:=.f) (r1:=r) (r2:=r) (ew (r1:=r) (r2:=r) rfl rfl<|jA hc) rfl rfl) ?_⟩
  refine(ax (d:=it) (r1:=r) rfl<|ew (x:=.c its) (y:=.a<|0+((j%its.length:av):aL)) (r1:=r) (r2:=r) rfl (cT (x:=.a<|0+(j:aL)) (y:=.a its.length) (r1:=r) (r2:=r) rfl rfl<|(jd hl).trans (by rw[hm]))<|jA hi).trans ?_
  refine(aH rfl).trans ?_
  exact MT (d:=it) (k:=.d k) (cx:=cx) (q:=.a i) (r1:=r) rfl rfl rfl (ew (r1:=r) (r2:=r) rfl rfl<|jA hc)<|aE (fo · _)<|ql<|rP (ab h0)<|ab h1
theorem RH: ∀(js:aa av) (xs:aa DV) (o5 o6:O),kq cells its js xs=some ys-> ∃o5' o6',dH (kN (aB oF) [] 5 qh) (js.map λ(j:av)=>.a<|0+(j:aL)) (ptS k cells its xs cx o5 o6) r=.a (ptS k cells its ys cx o5' o6') r:=by
 intro js
 induction js with
 |nil=>exact λxs o5 o6 h=>by cases h;exact⟨o5,o6,rfl⟩
 |cons j js ih=>
  intro xs o5 o6 h
  refine aU λG9 k9=>?_
  refine bN (t8 h) λzs h9=>cK h9 λe h=>?_
  refine bN (RG (k:=k) (cx:=cx) (o6:=o6) (r:=r) e) λo6' e1=>?_
  refine jK (ih zs (P<|.a<|0+(j:aL)) o6' h) λafm afn e2=>?_
  refine k9 ?_
  exact⟨afm,afn,bq e1 e2⟩
theorem RI(hk:k∈bQ)(hl:cells.length<=9999)(h:kq cells its (bp cells.length) xs=some ys)(r:Rw):F4 [aS (.d k) xs cx,.c cells,.c its] r=.c (aS (.d k) ys cx) r:=by
 refine aU λG9 k9=>?_
 refine jK (RH (k:=k) (cx:=cx) (r:=r) _ xs none none h) λo5 o6 e=>?_
 refine k9 ?_
 have hr:fQ [.a (cells.length:aL)]=some ((bp cells.length).map λ(j:av)=>.a<|0+(j:aL)):=(ql<|rP (ab<|ba _)<|ab<|cle<|ao (by assumption) (by decide)).trans (by unfold cG;rw[gO,SD])
 have e0:bM (aB oF) lE.mu lE.body (Cv lE [aS (.d k) xs cx,.c cells,.c its]) r=.a (ptS k cells its ys cx o5 o6) r:=by
  refine(ax (d:=.a its.length) (r1:=r) rfl rfl).trans ?_
  refine(wh (d:=.j false) (r1:=r) rfl rfl<|bu (vs:=[.d k]) (r1:=r) rfl<|rS hk r).trans ?_
  exact(rM (r1:=r) (b:=qh) (ss:=.b) (ys:=[.a cells.length]) rfl hr e).trans rfl
 exact abQ rfl e0
end
section
variable{r:Rw}{kv:aa av}{bf cells:aa DV}
theorem RJ(hk:kv∈bQ)(r:Rw):F0 [aS (.d kv) bf .f] r=.c (.a bf.length) r:=fm (P:=λkv=>F0 [aS (.d kv) bf .f] r=.c (.a bf.length) r) hk rfl rfl rfl rfl
theorem MU{k:aa av}{its:aa DV}{cx at2:DV}(h:k∈bQ)(h2:kv∈bQ)(r:Rw):gu [aS (.d k) its cx,aS (.d kv) bf at2] r=.c (.d<|jp k kv) r:=
 fm (P:=λk=>gu [aS (.d k) its cx,aS (.d kv) bf at2] r=.c (.d<|jp k kv) r) h
  (fm (P:=λkv=>gu [aS (.d bt) its cx,aS (.d kv) bf at2] r=.c (.d<|jp bt kv) r) h2 (by kernel_rfl) (by kernel_rfl) (by kernel_rfl) (by kernel_rfl))
  (fm (P:=λkv=>gu [aS (.d bg) its cx,aS (.d kv) bf at2] r=.c (.d<|jp bg kv) r) h2 (by kernel_rfl) (by kernel_rfl) (by kernel_rfl) (by kernel_rfl))
  (fm (P:=λkv=>gu [aS (.d bk) its cx,aS (.d kv) bf at2] r=.c (.d<|jp bk kv) r) h2 (by kernel_rfl) (by kernel_rfl) (by kernel_rfl) (by kernel_rfl))
  (fm (P:=λkv=>gu [aS (.d aG) its cx,aS (.d kv) bf at2] r=.c (.d<|jp aG kv) r) h2 (by kernel_rfl) (by kernel_rfl) (by kernel_rfl) (by kernel_rfl))
theorem RK: ∀(cells:aa DV) (o:ag (aM×DV)),(∀p∈cells,p=.f\/ ∃i:aL,p=.a i)->
  (cells.any cA=true->dH (λx δ r=>bM (aB gZ) [] gY (di δ 2 x) r) cells [some (false,a),some (false,b),o] r=.c y7 r)/\
  (cells.any cA=false-> ∃o',dH (λx δ r=>bM (aB gZ) [] gY (di δ 2 x) r) cells [some (false,a),some (false,b),o] r=.a [some (false,a),some (false,b),o'] r):=λo0=>by
 induction o0 with
 |nil=>exact λo U=>⟨λh=>(by cases h),λU=>⟨o,rfl⟩⟩
 |cons p cells ih=>
  intro o h
  rcases h p (.head _) with rfl|⟨i,rfl⟩
  ·have st:bM (aB gZ) [] gY (di [some (false,a),some (false,b),o] 2 .f) r=.c y7 r:=by
    refine lq (r1:=r) rfl ?_
    exact oG rfl
   exact⟨λU=>zF st,λh=>(by cases h)⟩
  ·have st:bM (aB gZ) [] gY (di [some (false,a),some (false,b),o] 2<|.a i) r=.a [some (false,a),some (false,b),some (false,.a i)] r:=rfl
   have ih:=ih (some (false,.a i)) λq m=>h q<|.tail _ m
   rw[f7]
   exact⟨λh=>bq st<|ih.1 h,λh=>let⟨o',q⟩:=ih.2 h;⟨o',bq st q⟩⟩
theorem RL(hp: ∀p∈cells,p=.f\/ ∃i:aL,p=.a i)(r:Rw):zz [.c cells,aS (.d kv) bf .f] r=if bf.length>1/\cells.any cA=true then .e y7 r else .c .f r:=by
 have hB:gi (aB gZ) (.f .Gt (.k .cn<|.a (.l (.b 1) 1) .b)<|.d 1) (b4 [some (false,.c cells),some (false,aS (.d kv) bf .f),none]) r=.c (decide<|(bf.length:aL)>1) r:=rfl
 by_cases hl:bf.length>1
 ·rw[ab (by lia)]at hB
  have lp:=RK (r:=r) (a:=.c cells) (b:=aS (.d kv) bf .f) cells none hp
  cases ha:cells.any cA with
  |true=>
   refine aK (aJ ⟨hl,rfl⟩) ?_
   refine rN rfl<|lq hB<|My (xs:=cells) (r1:=r) rfl rfl<|lp.1 ha
  |false=>
   refine aK (aN λq=>by cases q.2) ?_
   refine bN (lp.2 ha) λo' q=>?_
   exact Q3 rfl<|(dh hB<|(nt (xs:=cells) (r1:=r) rfl rfl q).trans rfl).trans rfl
 ·rw[al (by lia)]at hB
  refine aK (aN λq=>hl q.1) ?_
  exact Q3 rfl<|(aH hB).trans rfl
theorem U6: ∀(cells:aa DV) (c:aL) (o:ag (aM×DV)),0<=c->c<=N->(∀p∈cells,xn N p)->
  ∃c' o',c'<=N/\dH (λx δ r=>bM (aB ln) [] qC (di δ 2 x) r) cells [some (false,a),some (false,.a c),o] r=.a [some (false,a),some (false,.a c'),o'] r:=λo0=>by
 induction o0 with
 |nil=>exact λc o h0 h1 U=>⟨c,o,h1,rfl⟩
 |cons p cells ih=>
  intro c o h0 h1 h
  rcases h p (.head _) with rfl|⟨i,i0,i1,rfl⟩
  ·refine jK (ih c (some (false,.f)) h0 h1 λq m=>h q<|.tail _ m) λc' o' h9=>cK h9 λq1 q2=>?_
   exact⟨c',o',q1,bq rfl q2⟩
  ·have hB:gi (aB ln) (.q .And<|.a (.f .IsNot (.b 2) .o)<|.a (.f .GtE (.b 2)<|.b 1) .b) (b4 [some (false,a),some (false,.a c),some (false,.a i)]) r=.c (decide<|i>=c) r:=by
    refine dW (r1:=r) rfl ?_
    have:gi (aB ln) (.f .GtE (.b 2)<|.b 1) (b4 [some (false,a),some (false,.a c),some (false,.a i)]) r=.c (decide<|i>=c) r:=rfl
    cases hd:decide (i>=c) with
    |true=>rw[hd]at this;exact gC this rfl
    |false=>rw[hd]at this;exact ia this
   by_cases hc:i>=c
   ·rw[ab hc]at hB
    refine jK (ih (i+1) (some (false,.a i)) (by lia) (by assumption) λq m=>h q<|.tail _ m) λc' o' h9=>cK h9 λq1 q2=>?_
    exact⟨c',o',q1,bq ((dh hB<|(ax rfl rfl).trans rfl).trans rfl) q2⟩
   ·rw[al hc]at hB
    refine jK (ih c (some (false,.a i)) h0 h1 λq m=>h q<|.tail _ m) λc' o' h9=>cK h9 λq1 q2=>?_
    exact⟨c',o',q1,bq ((aH hB).trans rfl) q2⟩
theorem U7{N:aL}(hN:0<=N)(h: ∀p∈cells,xn N p)(r:Rw): ∃n,n<=N/\sZ [.c cells] r=.c (.a n) r:=by
 refine aU λG9 k9=>?_
 refine jK (U6 (r:=r) (a:=.c cells) cells 0 none (fa _) hN h) λc' o' h9=>cK h9 λq1 q2=>?_
 refine k9 ?_
 exact⟨c',q1,cg rfl<|(ax rfl rfl).trans<|(nt (xs:=cells) (r1:=r) rfl rfl q2).trans<|bR rfl⟩
theorem Gl: ∀(ks:aa av) (xs:aa DV),(∀p∈cells,xn xs.length p)->(∀k∈ks,k<cells.length)->(0<cells.length->0<its.length)-> ∃ys,kq cells its ks xs=some ys/\ys.length=xs.length:=λo0=>by
 induction o0 with
 |nil=>exact λxs U U U=>⟨xs,rfl,rfl⟩
 |cons k ks ih=>
  intro xs h hk hi
  have hlt:=hk k<|.head _
  have hp:=h _<|hG hlt
  have hc:=aC hlt
  generalize cells[k]=p at hp hc
  rcases hp with rfl|⟨i,i0,i1,rfl⟩
  ·refine bN (ih xs h (λj m=>hk j<|.tail _ m) hi) λys h9=>cK h9 λe1 e2=>?_
   exact⟨ys,(wY<|DW hc).trans e1,e2⟩
  ·have hm:k%its.length<its.length:=Cm _<|hi<|Nat.zero_lt_of_lt hlt
   obtain⟨ys,e1,e2⟩:=ih (xs.set i.toNat its[k%its.length]) (by rw[dn];exact h) (λj m=>hk j<|.tail _ m) hi
   exact⟨ys,(wY<|Gj hc (aC hm) ⟨i0,i1⟩).trans e1,e2.trans dn⟩
theorem IV{P:DV->Prop}(hi: ∀x∈its,P x): ∀(ks:aa av) (xs ys:aa DV),(∀x∈xs,P x)->kq cells its ks xs=some ys-> ∀x∈ys,P x:=λo0=>by
 induction o0 with
 |nil=>intro xs ys hx e;cases e;exact hx
 |cons k ks ih=>
  intro xs ys hx e
  refine bN (t8 e) λzs h9=>cK h9 λhs e=>?_
  refine ih zs ys (λx m=>?_) e
  cases rT hs with
  |none _ q=>exact hx x<|q▸m
  |int _ h2 _ _ q=>exact(List.mem_or_eq_of_mem_set<|q▸m).elim (hx x) λz=>z▸hi _ (bG h2)
noncomputable abbrev plT:=bM (aB lX) [7]
noncomputable def Zk(v w:DV)(cells:aa DV)(o5 o6 o7 o8 o9:O):Sl:=[P v,P<|.c cells,P .f,P w,P<|.c [],o5,o6,o7,o8,o9]
theorem adv:qF=.a (.a 5<|.h 20<|.a (.b 0) .b) (.a (.a 3<|.h 60<|.a (.b 3)<|.a (.b 0) .b)<|.a (.d<|.h 63<|.a (.b 1)<|.a (.b 3) .b)<|.a (.a 6<|.h 61<|.a (.b 0)<|.a (.b 3) .b) Ww):=rfl
theorem Gn{ct:av->Fn}{δ:Dl}{r:Rw}{a:Ex}{xs:aa DV}(h:dv ct a δ r=.c (.c xs) r):dv ct (.k .cn<|.a a .b) δ r=.c (.a xs.length) r:=pJ (aV h rfl) rfl
theorem U8{v:DV}{k kv to:aa av}{its xs ys bf cells:aa DV}{cx:DV}{n:aL}{o5:O}{r:Rw}(ht:to∈bQ)(hcl:cells.length<=9999)(h0:0<bf.length)(hm:cells.length%bf.length=0)(hci:oE [aS (.d kv) bf .f,.d to,.c []] r=.c (.c its) r)(hn:n<=xs.length)(hfc:sZ [.c cells] r=.c (.a n) r)
  (hy:kq cells its (bp cells.length) xs=some ys):plT Wv (Zk v (aS (.d kv) bf .f) cells o5 (P<|.d to) (some (true,aS (.d to) xs cx)) none none) r=.b (aS (.d to) ys cx) r:=by
 have e:(cells.length:aL).fmod bf.length=0:=by rw[bZ _<|ba _,←lS,hm];rfl
 refine(aH<|dz (x:=.a 0) (y:=.a 0) (r1:=r) (r2:=r) (cT (x:=.a cells.length) (y:=.a bf.length) (r1:=r) (r2:=r) (Gn rfl) (Gn rfl)<|(jd (by lia)).trans (by rw[e])) rfl rfl).trans ?_
 refine(ax (d:=.c its) (r1:=r) rfl<|bu (vs:=[aS (.d kv) bf .f,.d to,.c []]) (r1:=r) rfl hci).trans ?_
 refine(ax (d:=.a n) (r1:=r) rfl<|bu (vs:=[.c cells]) (r1:=r) rfl hfc).trans ?_
 refine(aH<|dz (op:=.Gt) (x:=.a n) (y:=.a xs.length) (r1:=r) (r2:=r) rfl (Gn rfl) (show some (decide<|n>(xs.length:aL))=some false by rw[al<|dS.mpr (by assumption)])).trans ?_
 refine(abR (d:=aS (.d to) xs cx) (vs:=[.c cells,.c its]) (r1:=r) rfl rfl rfl<|RI ht hcl hy r).trans ?_
 exact bR rfl
theorem U9{k kv:aa av}{its bf cells:aa DV}{es:aa (aa av×DV)}{g1 g2:DV->DV}(hk:k∈bQ)(hv:kv∈bQ)(hn: ∀r,jF [aS (.d k) its<|.h es] r=.c .f r)(h1: ∀x∈its,nw k x (jp k kv)<|g1 x)(h2: ∀x∈bf,nw kv x (jp k kv)<|g2 x)(hcl:cells.length<=9999)
  (hp: ∀p∈cells,xn its.length p) (hz:0<cells.length->0<bf.length) (hm:0<cells.length->cells.length%bf.length=0) {ys:aa DV} (hy:kq cells (bf.map g2) (bp cells.length) (its.map g1)=some ys) (r:Rw):
  qH [aS (.d k) its<|.h es,.c cells,.f,aS (.d kv) bf .f,.c []] r=if bf.length>1/\cells.any cA=true then .e y7 r else .c (aS (.d<|jp k kv) ys<|.h es) r:=by
 have ht:=(KU hk hv).1
 have hc:=RL (kv:=kv) (bf:=bf) (λp m=>(hp p m).int) r
 have s1: ∀{ss:ig},plT (.a (.a 5<|.h 20<|.a (.b 0) .b)<|.a (.a 3<|.h 60<|.a (.b 3)<|.a (.b 0) .b) ss) (Zk (aS (.d k) its<|.h es) (aS (.d kv) bf .f) cells none none none none none) r=plT ss (Zk (aS (.d k) its<|.h es) (aS (.d kv) bf .f) cells (P .f) none none none none) r:=
  (ax (d:=.f) (r1:=r) rfl<|bu (vs:=[aS (.d k) its<|.h es]) (r1:=r) rfl<|hn r).trans (ax (d:=aS (.d kv) bf .f) (r1:=r) rfl rfl)
 by_cases hna:bf.length>1/\cells.any cA=true
 ·rw[aJ hna]at hc ⊢
  exact rN rfl<|s1.trans<|Gk rfl<|bu (vs:=[.c cells,aS (.d kv) bf .f]) (r1:=r) rfl hc
 rw[aN hna]at hc ⊢
 refine cg rfl<|s1.trans<|(U5 rfl<|bu (vs:=[.c cells,aS (.d kv) bf .f]) (r1:=r) rfl hc).trans<|(ax (d:=.d<|jp k kv) (r1:=r) rfl<|bu (vs:=[aS (.d k) its<|.h es,aS (.d kv) bf .f]) (r1:=r) rfl<|MU hk hv r).trans ?_
 have tl: ∀{o6 o7:O},gi (aB lX) (.f .Gt (.k .cn<|.a (.b 1) .b)<|.d 0) (b4<|Zk (aS (.d k) its<|.h es) (aS (.d kv) bf .f) cells (P .f) o6 o7 none none) r=.c (decide<|(cells.length:aL)>0) r:=rfl
 have s2: ∀{ss:ig},plT (.a (.a 7<|.h 59<|.a (.b 0)<|.a (.b 6)<|.a (.b 4) .b) ss) (Zk (aS (.d k) its<|.h es) (aS (.d kv) bf .f) cells (P .f) (P<|.d<|jp k kv) none none none) r=plT ss (Zk (aS (.d k) its<|.h es) (aS (.d kv) bf .f) cells (P .f) (P<|.d<|jp k kv) (some (true,aS (.d<|jp k kv) (its.map g1)<|.h es)) none none) r:=
  iT rfl (bu (vs:=[aS (.d k) its<|.h es,.d<|jp k kv,.c []]) (r1:=r) rfl<|Gi hk ht hn (λx m r=>(h1 x m).1 r) r)
 by_cases h0:cells.length=0
 ·have:cells=[]:=EA.mp h0
  subst this
  cases hy
  exact(aH<|jc tl).trans<|s2.trans<|cQ rfl<|bR rfl
 have hv0:=hz<|jY h0
 have h0':(cells.length:aL)>0:=by lia
 refine(aH<|dW (r1:=r) (tl.trans (by rw[ab h0']))<|ia<|gM (i:=bf.length) (Gn rfl)<|al (by lia)).trans<|s2.trans<|(aH<|gM (i:=cells.length) (Gn rfl)<|al<|jv (by assumption)).trans ?_
 refine aU λG9 k9=>?_
 refine bN (U7 (ba its.length) hp r) λn h9=>cK h9 λhnn hfc=>?_
 refine k9 ?_
 exact U8 (k:=k) ht hcl hv0 (hm<|jY h0) (zX hv ht (λr=>fm (P:=λkv=>jF [aS (.d kv) bf .f] r=.c .f r) hv (by kernel_rfl) (by kernel_rfl) (by kernel_rfl) (by kernel_rfl)) (λx m r=>(h2 x m).1 r) r) (by rw[aw];exact hnn) hfc hy
end
section
variable{ct:av->Fn}{δ:Dl}{r r1 r2:Rw}{a:Ex}{es:n8}{x:DV}{m:aa av}
theorem abV(ha:dv ct a δ r=.e m r1):mE ct (.a a es) δ r=.e m r1:=aE (bc.bind · _) ha
theorem IW(ha:dv ct a δ r=.c x r1)(hb:mE ct es δ r1=.e m r2):mE ct (.a a es) δ r=.e m r2:=(bC ha).trans<|aE (bc.bind · _) hb
theorem RM{mu}{e}{ss}{δ}{X}(h:dv ct e (b4 δ) r=X):Od (bM ct mu (.a (.c e) ss) δ r)=X:=by
 show Od (SR.seq (bc.fZ (dv ct e (b4 δ) r) λd r=>.b d r) λδ r=>bM ct mu ss δ r)=X
 refine aK h ?_
 cases X<;>rfl
theorem IX(ha:mE ct es δ r=.e m r1):dv ct (.h f es) δ r=.e m r1:=aE (bc.bind · _) ha
end
section
variable{k kv:aa av}{dims:aa aL}{lists v:DV}{ixs bf cells:aa DV}
theorem Ve(hv:iB k dims lists v): ∃its es,v=aS (.d k) its (.h es):=by
 refine aU λG9 k9=>?_
 refine jK hv.ex λits cx h9=>cK h9 λh U=>?_
 refine k9 ?_
 exact⟨its,cx,h⟩
theorem KV(hv:iB k dims lists v)(eM:DV)(r:Rw)(h2:2<=ixs.length)(gQ:SR)
  (h:bM (aB fw) [] (.a (.b (.q .Or<|.a (.f .Is (.b 4) .o)<|.a (.f .NotEq (.k .cn<|.a (.b 4) .b)<|.k .cn<|.a (.b 1) .b) .b) (.a (.g<|.g FM) .b) .b)<|.a (.c<|.h 66<|.a (.b 0)<|.a (.b 1)<|.a (.b 2)<|.a (.b 3) .b) .b) [some (false,v),some (false,.c ixs),some (false,eM),some (false,.c []),some (false,.c<|dims.map .a),none] r=gQ):
  bM (aB fw) dV.mu dV.body (eH dV [v,.c ixs,eM,.c []]) r=gQ:=by
 refine jK (Ve hv) λits es Cy=>?_
 subst Cy
 have t1:gi (aB fw) (.f .Eq (.l (.b 0) 0)<|.g k6) (b4<|eH dV [aS (.d k) its<|.h es,.c ixs,eM,.c []]) r=.c false r:=
  fm (P:=λk=>gi (aB fw) (.f .Eq (.l (.b 0) 0)<|.g k6) (b4<|eH dV [aS (.d k) its<|.h es,.c ixs,eM,.c []]) r=.c false r) hv.kind rfl rfl rfl rfl
 have t2:gi (aB fw) (.q .And<|.a (.f .NotEq (.l (.b 0) 0)<|.g dQ)<|.a (.E<|.h 15<|.a (.b 0) .b) .b) (b4<|eH dV [aS (.d k) its<|.h es,.c ixs,eM,.c []]) r=.c false r:=
  fm (P:=λk=>gi (aB fw) (.q .And<|.a (.f .NotEq (.l (.b 0) 0)<|.g dQ)<|.a (.E<|.h 15<|.a (.b 0) .b) .b) (b4<|eH dV [aS (.d k) its<|.h es,.c ixs,eM,.c []]) r=.c false r) hv.kind rfl rfl rfl rfl
 refine(aH t1).trans<|(aH t2).trans ?_
 refine(aH<|gM (i:=ixs.length) (r1:=r) rfl<|al (by lia)).trans ?_
 refine(aH<|gM (i:=ixs.length) (r1:=r) rfl<|al (by lia)).trans ?_
 exact(ax (d:=.c<|dims.map .a) (r1:=r) rfl<|bu (f:=18) (vs:=[aS (.d k) its<|.h es]) (r1:=r) rfl<|Ru hv r).trans h
theorem RN{δ}{ds}{r}(h4:δ[4]?=some (some<|.c ds))(h1:δ[1]?=some (some<|.c ixs)):gi (aB fw) (.f .NotEq (.k .cn<|.a (.b 4) .b)<|.k .cn<|.a (.b 1) .b) δ r=.c (!decide ((ds.length:aL)=ixs.length)) r:=
 dz (x:=.a ds.length) (y:=.a ixs.length) (r1:=r) (r2:=r) (pJ (aV (cO h4) rfl) rfl) (pJ (aV (cO h1) rfl) rfl) rfl
theorem MV(hv:iB k dims lists v)(eM:DV)(r:Rw)(hl:ixs.length=dims.length):gA [v,.c ixs,eM,.c []] r=iS [v,.c ixs,eM,.c []] r:=by
 have h2:=hv.GK.cn
 have hne:=RN (ixs:=ixs) (δ:=b4 [some (false,v),some (false,.c ixs),some (false,eM),some (false,.c []),some (false,.c<|dims.map .a),none]) (r:=r) rfl rfl
 rw[aw,hl,ab rfl]at hne
 have st: ∀gQ,bM (aB fw) [] (.a (.c<|.h 66<|.a (.b 0)<|.a (.b 1)<|.a (.b 2)<|.a (.b 3) .b) .b) [some (false,v),some (false,.c ixs),some (false,eM),some (false,.c []),some (false,.c<|dims.map .a),none] r=gQ->
   bM (aB fw) dV.mu dV.body (eH dV [v,.c ixs,eM,.c []]) r=gQ:=λgQ h=>
  KV hv eM r (by lia) gQ ((aH<|lZ (r1:=r) rfl<|qj hne rfl).trans h)
 exact(Kz rfl<|st _ rfl).trans<|RM<|bu (f:=66) (vs:=[v,.c ixs,eM,.c []]) (r1:=r) rfl rfl
theorem Vf(hv:iB k dims lists v)(eM:DV)(r:Rw)(hl:ixs.length=dims.length+1):gA [v,.c ixs,eM,.c []] r=.e FM r:=by
 have h2:=hv.GK.cn
 have hne:=RN (ixs:=ixs) (δ:=b4 [some (false,v),some (false,.c ixs),some (false,eM),some (false,.c []),some (false,.c<|dims.map .a),none]) (r:=r) rfl rfl
 rw[aw,hl,al (by lia)]at hne
 exact rN rfl<|KV hv eM r (by lia) _<|lq (lZ (r1:=r) rfl<|zH hne)<|oG rfl
noncomputable def RO(v:DV)(ixs:aa DV)(eM:DV)(dims:aa aL)(cells:aa DV):Sl:=[some (false,v),some (false,.c ixs),some (false,eM),some (false,.c []),some (false,.c<|dims.map .a),some (false,.c cells),none]
theorem Vg(hv:iB k dims lists v)(eM:DV)(A:mK v dims lists ixs (.error m))(r:Rw):iS [v,.c ixs,eM,.c []] r=.e m r:=by
 refine rN rfl<|(ax (d:=.c<|dims.map .a) (r1:=r) rfl<|bu (f:=18) (vs:=[v]) (r1:=r) rfl<|Ru hv r).trans<|DE rfl<|IX<|IW (x:=.c<|dims.map .a) (r1:=r) rfl<|abV<|bu (f:=57) (vs:=[v,.c<|dims.map .a,.c ixs]) (r1:=r) rfl<|A.prog r
theorem xU(hv:iB k dims lists v)(eM:DV)(A:mK v dims lists ixs (.ok mA))(C:jH dims mA cells)(r:Rw)(gQ:SR)
  (h:bM (aB cM) [] (.a (.b (.q .And<|.a (.f .Gt (.k .cn<|.a (.b 5) .b)<|.d 0)<|.a (.f .Eq (.h 14<|.a (.b 2) .b)<|.d 0) .b) (.a (.g<|.g oX) .b) .b)<|.a (.b (.f .Eq (.l (.b 2) 0)<|.g dQ) (.a (.c<|.b 0) .b) .b)<|.a (.a 6<|.h 14<|.a (.h 60<|.a (.b 2)<|.a (.b 0) .b) .b)<|.a (.b (.q .And<|.a (.f .Gt (.k .cn<|.a (.b 5) .b)<|.d 0)<|.a (.f .NotEq (.i .Mod (.k .cn<|.a (.b 5) .b)<|.b 6)<|.d 0) .b) (.a (.g<|.g oW) .b) .b)<|.a (.c<|.h 65<|.a (.b 0)<|.a (.b 5)<|.a .o<|.a (.b 2)<|.a (.b 3) .b) .b) (RO v ixs eM dims cells) r=gQ):
  bM (aB cM) fA.mu fA.body (eH fA [v,.c ixs,eM,.c []]) r=gQ:=by
 exact(ax (d:=.c<|dims.map .a) (r1:=r) rfl<|bu (f:=18) (vs:=[v]) (r1:=r) rfl<|Ru hv r).trans<|(ax (d:=.c cells) (r1:=r) rfl<|bu (f:=56) (vs:=[.c<|dims.map .a,.c<|mA.map .c]) (r1:=r) (aV rfl<|aV (bu (f:=57) (vs:=[v,.c<|dims.map .a,.c ixs]) (r1:=r) rfl<|A.prog r) rfl)<|C.1 r).trans h
theorem RP:gi (aB cM) (.f .Gt (.k .cn<|.a (.b 5) .b)<|.d 0) (b4<|RO v ixs eM dims cells) r=.c (decide<|(cells.length:aL)>0) r:=rfl
theorem Go(hv:iB k dims lists v)(A:mK v dims lists ixs (.ok mA))(C:jH dims mA cells)(r:Rw):iS [v,.c ixs,mj,.c []] r=if 0<cells.length then .e oX r else .c v r:=by
 have hg:=RP (v:=v) (ixs:=ixs) (eM:=mj) (dims:=dims) (cells:=cells) (r:=r)
 by_cases h:0<cells.length
 ·refine aK (aJ h) ?_
  rw[ab (by lia)]at hg
  exact rN rfl<|xU hv mj A C r _<|lq (dW hg rfl)<|oG rfl
 ·refine aK (aN h) ?_
  rw[al (by lia)]at hg
  exact cg rfl<|xU hv mj A C r _<|(aH<|jc hg).trans<|cQ rfl<|bR rfl
theorem xV(hkv:kv∈bQ)(hv:iB k dims lists v)(A:mK v dims lists ixs (.ok mA))(C:jH dims mA cells)(r:Rw)
  (hX: ¬(0<cells.length/\bf.length=0)-> ¬(0<cells.length/\cells.length%bf.length≠0)->qH [v,.c cells,.f,aS (.d kv) bf .f,.c []] r=X) (hs:(∃d,X=.c d r)\/ ∃m,X=.e m r):
  iS [v,.c ixs,aS (.d kv) bf .f,.c []] r=if 0<cells.length/\bf.length=0 then .e oX r else if 0<cells.length/\cells.length%bf.length≠0 then .e oW r else X:=by
 have hg:=RP (v:=v) (ixs:=ixs) (eM:=aS (.d kv) bf .f) (dims:=dims) (cells:=cells) (r:=r)
 have hlen:=RJ (bf:=bf) hkv r
 have hz:gi (aB cM) (.f .Eq (.h 14<|.a (.b 2) .b)<|.d 0) (b4<|RO v ixs (aS (.d kv) bf .f) dims cells) r=.c (decide<|(bf.length:aL)=0) r:=
  gM (bu (f:=14) (vs:=[aS (.d kv) bf .f]) (r1:=r) rfl hlen) rfl
 by_cases h1:0<cells.length/\bf.length=0
 ·refine aK (aJ h1) ?_
  rw[ab (by lia)]at hg
  rw[ab (by lia)]at hz
  exact rN rfl<|xU hv _ A C r _<|lq (dW hg<|gC hz rfl)<|oG rfl
 refine aK (aN h1) ?_
 have tz:gi (aB cM) (.q .And<|.a (.f .Gt (.k .cn<|.a (.b 5) .b)<|.d 0)<|.a (.f .Eq (.h 14<|.a (.b 2) .b)<|.d 0) .b) (b4<|RO v ixs (aS (.d kv) bf .f) dims cells) r=.c false r:=by
  by_cases h0:0<cells.length
  ·rw[ab (by lia)]at hg
   rw[al<|λq=>h1 ⟨h0,by lia⟩]at hz
   exact dW hg<|ia hz
  ·rw[al (by lia)]at hg
   exact jc hg
 have tn:gi (aB cM) (.f .Eq (.l (.b 2) 0)<|.g dQ) (b4<|RO v ixs (aS (.d kv) bf .f) dims cells) r=.c false r:=
  fm (P:=λkv=>gi (aB cM) (.f .Eq (.l (.b 2) 0)<|.g dQ) (b4<|RO v ixs (aS (.d kv) bf .f) dims cells) r=.c false r) hkv rfl rfl rfl rfl
 have pre: ∀gQ,bM (aB cM) [] (.a (.b (.q .And<|.a (.f .Gt (.k .cn<|.a (.b 5) .b)<|.d 0)<|.a (.f .NotEq (.i .Mod (.k .cn<|.a (.b 5) .b)<|.b 6)<|.d 0) .b) (.a (.g<|.g oW) .b) .b)<|.a (.c<|.h 65<|.a (.b 0)<|.a (.b 5)<|.a .o<|.a (.b 2)<|.a (.b 3) .b) .b) ((RO v ixs (aS (.d kv) bf .f) dims cells).set 6<|some (false,.a bf.length)) r=gQ->
   bM (aB cM) fA.mu fA.body (eH fA [v,.c ixs,aS (.d kv) bf .f,.c []]) r=gQ:=λgQ h=>
  xU hv _ A C r _ ((aH tz).trans<|(aH tn).trans<|(ax (d:=.a bf.length) (r1:=r) rfl<|bu (f:=14) (vs:=[aS (.d kv) bf .f]) (r1:=r) (aV (bu (f:=60) (vs:=[aS (.d kv) bf .f,v]) (r1:=r) rfl rfl) rfl) hlen).trans h)
 have SS:gi (aB cM) (.f .Gt (.k .cn<|.a (.b 5) .b)<|.d 0) (b4<|(RO v ixs (aS (.d kv) bf .f) dims cells).set 6<|some (false,.a bf.length)) r=.c (decide<|(cells.length:aL)>0) r:=rfl
 have hm2:bf.length≠0->gi (aB cM) (.f .NotEq (.i .Mod (.k .cn<|.a (.b 5) .b)<|.b 6)<|.d 0) (b4<|(RO v ixs (aS (.d kv) bf .f) dims cells).set 6<|some (false,.a bf.length)) r=.c (!decide ((cells.length:aL).fmod bf.length=0)) r:=λh=>
  dz (x:=.a<|(cells.length:aL).fmod bf.length) (y:=.a 0) (r1:=r) (r2:=r) (cT (x:=.a cells.length) (y:=.a bf.length) (r1:=r) (r2:=r) rfl rfl<|jd (by lia)) rfl rfl
 have hfm:bf.length≠0->(cells.length:aL).fmod bf.length=((cells.length%bf.length:av):aL):=λh=>by
  rw[bZ _<|ba _];rfl
 by_cases h2:0<cells.length/\cells.length%bf.length≠0
 ·refine aK (aJ h2) ?_
  have h0:bf.length≠0:=λq=>h1 ⟨h2.1,q⟩
  have hm2:=hm2 h0
  rw[ab (by lia)]at SS
  rw[hfm h0,al (by lia)]at hm2
  exact rN rfl<|pre _<|lq (dW SS<|gC hm2 rfl)<|oG rfl
 refine aK (aN h2) ?_
 have tm:gi (aB cM) (.q .And<|.a (.f .Gt (.k .cn<|.a (.b 5) .b)<|.d 0)<|.a (.f .NotEq (.i .Mod (.k .cn<|.a (.b 5) .b)<|.b 6)<|.d 0) .b) (b4<|(RO v ixs (aS (.d kv) bf .f) dims cells).set 6<|some (false,.a bf.length)) r=.c false r:=by
  by_cases h0:0<cells.length
  ·have hv0:bf.length≠0:=λq=>h1 ⟨h0,q⟩
   have hm2:=hm2 hv0
   rw[ab (by lia)]at SS
   rw[hfm hv0,ab (by by_cases q:cells.length%bf.length=0<;>lia)]at hm2
   exact dW SS<|ia hm2
  ·rw[al (by lia)]at SS
   exact jc SS
 have hc:=bu (ct:=aB cM) (f:=65) (es:=.a (.b 0)<|.a (.b 5)<|.a .o<|.a (.b 2)<|.a (.b 3) .b) (δ:=b4<|(RO v ixs (aS (.d kv) bf .f) dims cells).set 6<|some (false,.a bf.length)) (vs:=[v,.c cells,.f,aS (.d kv) bf .f,.c []]) (r:=r) (r1:=r) rfl<|hX h1 h2
 rcases hs with⟨d,rfl⟩|⟨m,rfl⟩
 ·exact cg rfl<|pre _<|(aH tm).trans<|bR hc
 ·exact rN rfl<|pre _<|(aH tm).trans<|Mx hc
end
noncomputable def qJ:av->DV->aM
 |0,x=>cP x x==some true
 |n+1,.c xs=>xs.all (qJ n)
 |n+1,.g xs=>xs.all (qJ n)
 |n+1,.h es=>es.all λp=>qJ n p.2
 |_+1,x=>cP x x==some true
theorem B2{f:DV->DV->ag aM}: ∀{xs:aa DV},(∀x∈xs,f x x=some true)-> ∃bs,At f xs xs=some bs/\bs.all id=true:=by
 intro o0
 induction o0 with
 |nil=>exact λU=>⟨[],rfl,rfl⟩
 |cons x xs ih=>
  intro h
  obtain⟨bs,e1,e2⟩:=ih λy m=>h y<|.tail _ m
  refine⟨true::bs,?_,by simpa using e2⟩
  show on (f x x) (At f xs xs) (λb bs=>some<|b::bs)=_
  refine aK (h x<|.head _)<|aK e1 ?_
  rfl
theorem MW{f:DV->DV->ag aM}: ∀{es:aa (aa av×DV)},(∀p∈es,f p.2 p.2=some true)->EE f es es=true:=by
 intro o0
 induction o0 with
 |nil=>exact λU=>rfl
 |cons p9 es ih=>
  intro h
  obtain⟨k,x⟩:=p9
  show(decide (k=k)&&f x x==some true&&EE f es es)=true
  refine aK (h (k,x)<|.head _)<|aK (ih λp m=>h p<|.tail _ m)<|aK (ab rfl) ?_
  rfl
theorem afo{α:Type}{o p:ag α}{a:α}(h:o=some a):o.or p=some a:=by rw[h];rfl
theorem RQ(r:Rw): ∀(n:av) (d:DV),qJ n d=true->Hb r n d d=some true:=λn=>by
 induction n with
 |zero=>exact λd h=>(f4.mp h:cP d d=some true)
 |succ n ih=>
  intro d h
  cases d with
  |c xs=>
   have h:=aF.mp (h:xs.all (qJ n)=true)
   refine bN (B2 (f:=Hb r n) λx m=>ih x<|h x m) λbs h9=>cK h9 λe1 e2=>?_
   refine afo<|(aJ rfl).trans ?_
   refine aK e1 ?_
   exact aE some e2
  |g xs=>
   have h:=aF.mp (h:xs.all (qJ n)=true)
   refine bN (B2 (f:=Hb r n) λx m=>ih x<|h x m) λbs h9=>cK h9 λe1 e2=>?_
   show fo none (fo (qv (λx=>x.all id)<|At (Hb r n) xs xs) _)=_
   refine aK e1 ?_
   exact aE some e2
  |h es=>
   have h:=aF.mp (h:es.all (λp=>qJ n p.2)=true)
   show fo none (fo none<|fo (gL (EE (Hb r n) es es) true) _)=_
   rw[MW λp m=>ih p.2<|h p m];rfl
  |f=>rfl
  |j b=>exact f4.mp h
  |a i=>exact f4.mp h
  |d l=>exact f4.mp h
  |o es=>exact f4.mp h
  |n k fs=>exact f4.mp h
  |m=>exact f4.mp h
theorem uX(n:av)(i:aL):qJ n (.a i)=true:=by cases n<;>(show(some (decide<|i=i)==some true)=true;rw[ab rfl];rfl)
theorem kt(n:av)(l:aa av):qJ n (.d l)=true:=by cases n<;>(show(some (decide<|l=l)==some true)=true;rw[ab rfl];rfl)
theorem Gp(h:gJ k x)(n:av):qJ (n+1) x=true:=by
 rcases h with rfl|⟨_,rfl|rfl⟩|⟨_,i,rfl,_⟩|⟨_,a,b,rfl,_⟩|⟨_,l,rfl,_⟩
 ·rfl
 ·exact uX _ _
 ·exact uX _ _
 ·exact uX _ _
 ·show([DV.a a,DV.a b].all<|qJ n)=true
  simp[uX]
 ·exact kt _ _
theorem DX{ct:av->Fn}{δ:Dl}{r r1 r2:Rw}{a b:Ex}{x:DV}(ha:dv ct a δ r=.c x r1)(hb:dv ct b δ r1=.c x r2)(h:qJ 8 x=true):gi ct (.f .NotEq a b) δ r=.c false r2:=
 dz ha hb (by show(Hb r2 8 x x).map (!·)=_;rw[RQ r2 8 x h];rfl)
theorem Gq{aW}{r}: ∀(va:aa (aa av×DV)) (acc:aa DV),(∀p∈va,aW (.d p.1) r=.c [.g [.d p.1,p.2]] r)->gn aW (va.map λp=>.d p.1) acc r=.c (acc++va.map λp=>.g [.d p.1,p.2]) r:=λo0=>by
 induction o0 with
 |nil=>intro acc U;show _=bc.c (acc++[]) r;rw[bI];rfl
 |cons p va ih=>
  intro acc h
  refine k8 (h p<|.head _)<|(ih _ λq m=>h q<|.tail _ m).trans ?_
  simp
theorem MX: ∀va:aa (aa av×DV),mU (va.map λp=>.g [.d p.1,p.2])=some va:=λo0=>by
 induction o0 with
 |nil=>exact rfl
 |cons p9 va ih=>
  obtain⟨k,v⟩:=p9
  show on (some k) (mU<|va.map λp=>.g [.d p.1,p.2]) (λk r=>some<|(k,v)::r)=_;rw[ih];rfl
theorem KW{ct:av->Fn}{k v:Ex}{i:av}{it:It}{δ:Dl}{r:Rw}{va:aa (aa av×DV)}(hi:Au ct it δ r=.c (va.map λp=>.d p.1) r)(hl:va.length<=99)(hk: ∀l,dv ct k (δ.set i<|some<|.d l) r=.c (.d l) r)
  (hv: ∀p∈va,dv ct v (δ.set i<|some<|.d p.1) r=.c p.2 r) (hn:(va.map<|λx=>x.1).Nodup):dv ct (.G k v i it) δ r=.c (.h va) r:=by
 refine(bC hi).trans<|(bC<|Gq va [] λp m=>(bC<|hk p.1).trans<|bC<|hv p m).trans ?_
 unfold EI
 rw[fO,MX,aw]
 exact rO<|rP (ab hl)<|ab hn
noncomputable def jR(k:aa av)(xs:aa DV):DV:=.g [.d k,.c xs,.h []]
noncomputable def jw:DV->DV
 |.c xs=>jR aG xs
 |_=>.d dQ
theorem MY{ct:av->Fn}{a:Ex}{δ:Dl}{r r1:Rw}{es:aa (aa av×DV)}(h:dv ct a δ r=.c (.h es) r1)(hl: ∀p∈es,p.1.length<=9999):Au ct (.a a) δ r=.c (es.map λp=>.d p.1) r1:=by
 refine(bC h).trans ?_
 show bc.fG (gL (es.all λp=>decide<|p.1.length<=9999)<|es.map λp=>DV.d p.1) r1=_
 exact rO<|aF.mpr λp m=>ab<|hl p m
noncomputable def sA:DV->aa (aa av×DV)
 |.h [(l,.n 0 [(0,_),(1,.c hs),_,_,_])]=>[(l,jR aG hs)]
 |_=>[]
theorem Vh{ls:aa DV}{pat:DV}(hn: ∀d∈ls,d=.f\/ ∃xs,d=.c xs)(hp:Ra pat)(r:Rw):uO [aS (.d dL) (ls.map iv) pat] r=.c (.g [.d dL,.c<|ls.map jw,.h<|sA pat]) r:=by
 have items: ∀δ:Dl,δ[0]?=some (some<|aS (.d dL) (ls.map iv) pat)->3<δ.length->dv (aB mw) (.v (.h 7<|.a (.b 3) .b) 3 (.a<|.l (.b 0) 1) .b) δ r=.c (.c<|ls.map jw) r:=λδ h0 hl=>by
  have:=wV (ct:=aB mw) (elt:=.h 7<|.a (.b 3) .b) (i:=3) (it:=.a<|.l (.b 0) 1) (δ:=δ) (r:=r) (r1:=r) (xs:=ls.map iv) (λp=>match p with|.n 0 [(0,_),(1,.c xs),_,_,_]=>jR aG xs|_=>.d dQ) (zK (zG (cO h0) rfl)) λp m=>by
   rw[bb]at m
   obtain⟨d,m,rfl⟩:=m
   refine bu (f:=7) (vs:=[iv d]) (r1:=r) (aV (cO<|eT hl) rfl) ?_
   rcases hn d m with rfl|⟨xs,rfl⟩<;>rfl
  refine aK this ?_
  rw[dj]
  congr 2
  refine cr λd m=>?_
  rcases hn d m with rfl|⟨xs,rfl⟩<;>rfl
 rcases hp with rfl|⟨n,rfl⟩
 ·exact cg rfl<|(aH rfl).trans<|(aH rfl).trans<|(ax (d:=.h []) (r1:=r) rfl rfl).trans<|(aH rfl).trans<|cQ rfl<|bR<|lr (vs:=[.d dL,.c<|ls.map jw,.h []]) (r1:=r) (aV rfl<|aV (items _ rfl (show 3<4 by decide)) rfl) (by simp)
 ·have hd:dv (aB mw) (.G (.b 2) (.h 7<|.a (.m (.l (.b 0) 2)<|.b 2) .b) 2<|.a<|.l (.b 0) 2) (bU [some (false,aS (.d dL) (ls.map iv)<|.h [(i5,aS (.d aG) (jo.take n) .f)]),some (false,.h []),none,none]) r=.c (.h [(i5,jR aG<|jo.take n)]) r:=
   KW (va:=[(i5,jR aG (jo.take n))]) rfl (by simp) (λl=>rfl) (λp m=>by
    rw[bh]at m
    subst m;rfl) (by simp)
  exact cg rfl<|(aH rfl).trans<|(aH rfl).trans<|(ax (d:=.h []) (r1:=r) rfl rfl).trans<|(dh (iZ:=[some (false,aS (.d dL) (ls.map iv)<|.h [(i5,aS (.d aG) (jo.take n) .f)]),some (false,.h [(i5,jR aG<|jo.take n)]),none,none]) (r2:=r) rfl<|(ax rfl hd).trans rfl).trans<|cQ rfl<|bR<|lr (vs:=[.d dL,.c<|ls.map jw,.h [(i5,jR aG<|jo.take n)]]) (r1:=r) (aV rfl<|aV (items _ rfl (show 3<4 by decide)) rfl) (by simp)
structure Gs(es va:aa (aa av×DV)):Prop where
 pk: ∀k∈bQ,∀its r,fu [aS (.d k) its<|.h es] r=.c (.g [.d k,.c its,.h va]) r
 ok:qJ 7 (.h va)=true
theorem KX(hl:va.length<=99)(hk:es.map (λx=>x.1)=va.map (λx=>x.1))(hs: ∀p∈es,p.1.length<=9999)(hn:(va.map<|λx=>x.1).Nodup)(hv: ∀p∈va,∃d,es.lookup p.1=some d/\ ∀r,uO [d] r=.c p.2 r)(h:k∈bQ)(its:aa DV)(r:Rw):
  fu [aS (.d k) its<|.h es] r=.c (.g [.d k,.c its,.h va]) r:=by
 have hd:dv (aB i9) (.G (.b 2) (.h 8<|.a (.m (.l (.b 0) 2)<|.b 2) .b) 2<|.a<|.l (.b 0) 2) (bU [some (false,aS (.d k) its<|.h es),some (false,.h []),none,none]) r=.c (.h va) r:=by
  refine KW ?_ hl (λl=>rfl) (λp m=>?_) hn
  ·have e:(es.map λp=>DV.d p.1)=va.map λp=>DV.d p.1:=by
    have:=aE (List.map DV.d) hk
    rwa [dj,dj]at this
   refine aK e.symm ?_
   exact MY rfl hs
  ·refine bN (hv p m) λd h9=>cK h9 λh1 h2=>?_
   exact bu (f:=8) (vs:=[d]) (r1:=r) (aV (ew (x:=.h es) (y:=.d p.1) (r1:=r) (r2:=r) rfl rfl h1) rfl)<|h2 r
 have t1:gi (aB i9) (.f .Eq (.l (.b 0) 0)<|.g dQ) (b4 [some (false,aS (.d k) its<|.h es),none,none,none]) r=.c false r:=
  fm (P:=λk=>gi (aB i9) (.f .Eq (.l (.b 0) 0)<|.g dQ) (b4 [some (false,aS (.d k) its<|.h es),none,none,none]) r=.c false r) h rfl rfl rfl rfl
 have t2:gi (aB i9) (.f .In (.l (.b 0) 0)<|.t<|.a (.g dL)<|.a (.g fU)<|.a (.g iO) .b) (b4 [some (false,aS (.d k) its<|.h es),some (false,.h va),none,none]) r=.c false r:=
  fm (P:=λk=>gi (aB i9) (.f .In (.l (.b 0) 0)<|.t<|.a (.g dL)<|.a (.g fU)<|.a (.g iO) .b) (b4 [some (false,aS (.d k) its<|.h es),some (false,.h va),none,none]) r=.c false r) h rfl rfl rfl rfl
 exact cg rfl<|(aH rfl).trans<|(aH t1).trans<|(ax (d:=.h []) (r1:=r) rfl rfl).trans<|(dh (iZ:=[some (false,aS (.d k) its<|.h es),some (false,.h va),none,none]) (r2:=r) rfl<|(ax rfl hd).trans rfl).trans<|(aH t2).trans<|bR rfl
theorem MZ{dims:aa aL}{lists:DV}{es:aa (aa av×DV)}(h:KD dims lists (.h es)): ∃va,Gs es va:=by
 have WC:qJ 6 (jR bg<|dims.map .a)=true:=by
  show([DV.d bg,.c<|dims.map .a,.h []].all<|qJ 5)=true
  simp only[bw,qZ,gR,kt,pT]
  show((dims.map DV.a).all (qJ 4)&&true)=true
  rw[gR,aF]
  intro x m
  rw[bb]at m
  obtain⟨i,_,rfl⟩:=m
  exact uX _ _
 rcases h with⟨_,h⟩|⟨ls,pat,_,hn,hp,h⟩
 ·cases h
  refine⟨[(kM,jR bg<|dims.map .a)],λk hk its r=>KX (es:=[(kM,IB dims)]) (va:=[(kM,jR bg<|dims.map .a)]) (by simp) rfl (λp m=>by rw[bh]at m;subst m;show kM.length<=9999;decide) (by simp) (λp m=>?_) hk its r,?_⟩
  ·rw[bh]at m
   subst m
   exact⟨_,rfl,λr=>rfl⟩
  ·show([(kM,jR bg<|dims.map .a)].all λp=>qJ 6 p.2)=true
   simp[WC]
 ·cases h
  refine⟨[(kM,jR bg<|dims.map .a),(ge,.g [.d dL,.c<|ls.map jw,.h<|sA pat])],λk hk its r=>KX (es:=[(kM,IB dims),(ge,aS (.d dL) (ls.map iv) pat)]) (va:=[(kM,jR bg<|dims.map .a),(ge,.g [.d dL,.c<|ls.map jw,.h<|sA pat])]) (by simp) rfl (λp m=>?_) (by show [kM,ge].Nodup;decide) (λp m=>?_) hk its r,?_⟩
  ·simp only[a0,gh,sB]at m
   rcases m with rfl|rfl
   ·show kM.length<=9999;decide
   ·show ge.length<=9999;decide
  ·simp only[a0,gh,sB]at m
   rcases m with rfl|rfl
   ·exact⟨_,rfl,λr=>rfl⟩
   ·exact⟨_,rfl,λr=>Vh hn.rm hp r⟩
  ·have o1: ∀xs:aa DV,(∃e:aL,xs=gD e)\/(∃n,xs=jo.take n)->qJ 4 (jR aG xs)=true:=λxs hx=>by
    show([DV.d aG,.c xs,.h []].all<|qJ 3)=true
    simp only[bw,qZ,gR,kt,pT]
    show(xs.all (qJ 2)&&true)=true
    rw[gR,aF]
    intro x m
    rcases hx with⟨e,rfl⟩|⟨n,rfl⟩
    ·unfold gD cG at m
     rw[bb]at m
     obtain⟨y,m,rfl⟩:=m
     rw[bb]at m
     obtain⟨j,m,rfl⟩:=m
     exact kt _ _
    ·have:=List.mem_of_mem_take m
     simp only[jo,a0,gh,sB]at this
     rcases this with rfl|rfl|rfl<;>exact kt _ _
   have rm: ∀{es:aa aL} {ls:aa DV},oH es ls-> ∀d∈ls,d=.f\/ ∃e,d=.c (gD e):=λ{es ls} h=>by
    induction es generalizing ls with
    |nil=>cases ls with|nil=>intro d m;cases m|cons _ _=>exact h.elim
    |cons e es ih=>
     cases ls with
     |nil=>exact h.elim
     |cons x ls=>
      intro d m
      rcases a0.mp m with rfl|m
      ·exact h.1.imp id λh=>⟨e,h⟩
      ·exact ih h.2 d m
   have o2:qJ 5 (.c<|ls.map jw)=true:=by
    show(ls.map jw).all (qJ 4)=true
    rw[aF]
    intro x m
    rw[bb]at m
    obtain⟨d,m,rfl⟩:=m
    rcases rm hn d m with rfl|⟨e,rfl⟩
    ·exact kt _ _
    ·exact o1 _<|.inl ⟨e,rfl⟩
   have o3:qJ 5 (.h<|sA pat)=true:=by
    rcases hp with rfl|⟨n,rfl⟩
    ·rfl
    ·show([(i5,jR aG<|jo.take n)].all λp=>qJ 4 p.2)=true
     simp[o1 _<|.inr ⟨n,rfl⟩]
   show([(kM,jR bg<|dims.map .a),(ge,DV.g [.d dL,.c<|ls.map jw,.h<|sA pat])].all λp=>qJ 6 p.2)=true
   simp only[bw,qZ,WC,pT,gR]
   show([DV.d dL,.c<|ls.map jw,.h<|sA pat].all<|qJ 5)=true
   simp[kt,o2,o3]
theorem Vi{P:aL->Prop}: ∀{ds:aa DV},(∀d∈ds,∃z:aL,d=.a z/\P z)-> ∃zs:aa aL,ds=zs.map .a/\ ∀z∈zs,P z:=by
 intro o0
 induction o0 with
 |nil=>exact λU=>⟨[],rfl,λU h=>nomatch h⟩
 |cons d ds ih=>
  intro h
  obtain⟨z,yt,hz⟩:=h d<|.head _
  refine aK yt ?_
  obtain⟨zs,oS,hs⟩:=ih λe m=>h e<|.tail _ m
  refine aK oS ?_
  exact⟨z::zs,rfl,λy m=>by
   rcases a0.mp m with rfl|m
   ·exact hz
   ·exact hs y m⟩
theorem Vj: ∀{ds:aa DV},(∀d∈ds,d=.f\/d=Er)-> ∃zs:aa (ag aL),ds=zs.map (λz=>z.elim .f λU=>Er)/\ ∀z∈zs,z=none\/z=some 1:=by
 intro o0
 induction o0 with
 |nil=>exact λU=>⟨[],rfl,λU h=>nomatch h⟩
 |cons d ds ih=>
  intro h
  obtain⟨zs,yt,hs⟩:=ih λe m=>h e<|.tail _ m
  refine aK yt ?_
  rcases h d (.head _) with rfl|rfl
  ·exact⟨none::zs,rfl,λy m=>by
    rcases a0.mp m with rfl|m
    ·exact .inl rfl
    ·exact hs y m⟩
  ·exact⟨some 1::zs,rfl,λy m=>by
    rcases a0.mp m with rfl|m
    ·exact .inr rfl
    ·exact hs y m⟩
theorem M0(r:Rw):Got (Iv [.m] r) l4:=by
 have dr: ∀(δ:Dl) (r:Rw) (m:aL),δ[0]?=some (some .m)->0<m->Drawn (aB eO) 0 δ r m:=λδ r m h1 h2=>AS rfl h1 m h2
 refine aU λG9 k9=>?_
 obtain⟨k0,_,_,e0⟩:=dr (b4<|eH m9 [.m]) r 3 rfl (by decide)
 refine k9 ?_
 by_cases h0:k0=0
 ·exact⟨wW,r.tail,cg rfl<|cQ (gM e0<|ab h0)<|bR rfl,.DO⟩
 refine aU λG9 k9=>?_
 obtain⟨k1,a1,b1,e1⟩:=dr (bU<|eH m9 [.m]) r.tail 6 rfl (by decide)
 obtain⟨k2,a2,b2,e2⟩:=dr (bU [some (false,.m),some (false,.a k1),none,none,none,none,none,none]) r.tail.tail 4 rfl (by decide)
 refine k9 ?_
 have hr: ∀(δ:Dl) (r:Rw),δ[2]?=some (some<|.a k2)->Au (aB eO) (.b<|.a (.b 2) .b) δ r=.c (cG 0 k2) r:=λδ r h=>qo (cO h) (by lia)<|bz<|bd (by assumption) (by decide)
 have hlen:(cG 0 k2).length<=3:=by unfold cG;rw[aw,dR];lia
 have pre: ∀ss gQ,bM (aB eO) [] ss [some (false,.m),some (false,.a k1),some (false,.a k2),none,none,none,none,none] r.tail.tail.tail=gQ->bM (aB eO) [] (.a (.b (.f .Eq (.i .Mod (.h 0<|.a (.b 0) .b)<|.d 3)<|.d 0) (.a (.c<|.A 2 .b) .b) .b)<|.a (.a 1<|.i .Mod (.h 0<|.a (.b 0) .b)<|.d 6)<|.a (.a 2<|.i .Mod (.h 0<|.a (.b 0) .b)<|.d 4) ss) (eH m9 [.m]) r=gQ:=λss gQ h=>
  (aH<|gM e0<|al h0).trans ((ax rfl e1).trans<|(ax rfl e2).trans h)
 by_cases h3:k1<3
 ·have hsg: ∃sg:aL,(sg=1\/sg= -1)/\dv (aB eO) (.w (.f .Eq (.b 1)<|.d 2) (.C<|.d 1)<|.d 1) (bU [some (false,.m),some (false,.a k1),some (false,.a k2),none,none,none,none,none]) r.tail.tail.tail=.c (.a sg) r.tail.tail.tail:=by
   by_cases h:k1=2
   ·exact⟨-1,.inr rfl,jz (gM (i:=k1) (r1:=r.tail.tail.tail) rfl<|ab h) rfl⟩
   ·exact⟨1,.inl rfl,jb (gM (i:=k1) (r1:=r.tail.tail.tail) rfl<|al h) rfl⟩
  refine aU λG9 k9=>?_
  obtain⟨sg,hs,es⟩:=hsg
  refine k9 ?_
  obtain⟨ds,r',ed,el,eP⟩:=qm (ct:=aB eO) (elt:=.i .Mult (.b 3)<|.i .Mod (.h 0<|.a (.b 0) .b)<|.d 4) (i:=4) (δ:=b4 [some (false,.m),some (false,.a k1),some (false,.a k2),some (false,.a sg),none,none,none,none]) (P:=λd=> ∃z:aL,d=.a z/\ ∃j:aL,0<=j/\z=sg*j) (hr _ r.tail.tail.tail rfl) λx m r=>by
   refine aU λG9 k9=>?_
   obtain⟨j,j0,j1,ej⟩:=dr ((b4 [some (false,.m),some (false,.a k1),some (false,.a k2),some (false,.a sg),none,none,none,none]).set 4<|some x) r 4 rfl (by decide)
   refine k9 ?_
   exact⟨_,_,cT (x:=.a sg) (r1:=r) rfl ej (je (dX (by lia) (by lia))<|dX (by lia)<|ay (by assumption) (by decide)),_,rfl,j,j0,rfl⟩
  obtain⟨zs,rfl,hz⟩:=Vi eP
  refine⟨_,r',cg rfl<|pre _ _<|cQ (nu (i:=k1) (r1:=r.tail.tail.tail) rfl<|ab h3)<|(ax rfl es).trans<|bR<|wU (vs:=[.d bg,.c<|zs.map .a]) (aV rfl<|aV ed rfl) rfl,.sN zs (by rw[aw]at el;lia) ?_⟩
  rcases hs with rfl|rfl
  ·exact .inl λz m=>by obtain⟨j,h1,h2⟩:=hz z m;lia
  ·exact .inr λz m=>by obtain⟨j,h1,h2⟩:=hz z m;lia
 have q3: ∀(ss a:ig),bM (aB eO) [] (.a (.b (.f .Lt (.b 1)<|.d 3) a .b) ss) [some (false,.m),some (false,.a k1),some (false,.a k2),none,none,none,none,none] r.tail.tail.tail=bM (aB eO) [] ss [some (false,.m),some (false,.a k1),some (false,.a k2),none,none,none,none,none] r.tail.tail.tail:=λss a=>aH<|nu (i:=k1) (r1:=r.tail.tail.tail) rfl<|al h3
 by_cases h4:k1=3
 ·obtain⟨ds,r',ed,el,eP⟩:=qm (ct:=aB eO) (elt:=.m (.r<|.a (.d 1)<|.a (.d 0)<|.a .o .b)<|.i .Mod (.h 0<|.a (.b 0) .b)<|.d 3) (i:=5) (δ:=b4 [some (false,.m),some (false,.a k1),some (false,.a k2),none,none,none,none,none]) (P:=λd=>d=.a 1\/d=.a 0\/d=.f) (hr _ r.tail.tail.tail rfl) λx m r=>by
   refine aU λG9 k9=>?_
   obtain⟨j,j0,j1,ej⟩:=dr ((b4 [some (false,.m),some (false,.a k1),some (false,.a k2),none,none,none,none,none]).set 5<|some x) r 3 rfl (by decide)
   refine k9 ?_
   rcases(or3 (k:=j) (by assumption) (by assumption)) with rfl|rfl|rfl
   ·exact⟨_,_,ew (z:=.a 1) rfl ej rfl,.inl rfl⟩
   ·exact⟨_,_,ew (z:=.a 0) rfl ej rfl,.inr<|.inl rfl⟩
   ·exact⟨_,_,ew (z:=.f) rfl ej rfl,.inr<|.inr rfl⟩
  exact⟨_,r',cg rfl<|pre _ _<|(q3 _ _).trans<|cQ (gM (i:=k1) (r1:=r.tail.tail.tail) rfl<|ab h4)<|bR<|wU (vs:=[.d bt,.c ds]) (aV rfl<|aV ed rfl) rfl,.lgl ds (by lia) eP⟩
 have q4: ∀(ss a:ig),bM (aB eO) [] (.a (.b (.f .Eq (.b 1)<|.d 3) a .b) ss) [some (false,.m),some (false,.a k1),some (false,.a k2),none,none,none,none,none] r.tail.tail.tail=bM (aB eO) [] ss [some (false,.m),some (false,.a k1),some (false,.a k2),none,none,none,none,none] r.tail.tail.tail:=λss a=>aH<|gM (i:=k1) (r1:=r.tail.tail.tail) rfl<|al h4
 by_cases h5:k1=4
 ·obtain⟨ds,r',ed,el,eP⟩:=qm (ct:=aB eO) (elt:=.m (.r<|.a (.g [97])<|.a (.g [98])<|.a (.g [99])<|.a (.g [122])<|.a .o .b)<|.i .Mod (.h 0<|.a (.b 0) .b)<|.d 5) (i:=6) (δ:=b4 [some (false,.m),some (false,.a k1),some (false,.a k2),none,none,none,none,none]) (P:=λd=>d∈t5) (hr _ r.tail.tail.tail rfl) λx m r=>by
   refine aU λG9 k9=>?_
   obtain⟨j,j0,j1,ej⟩:=dr ((b4 [some (false,.m),some (false,.a k1),some (false,.a k2),none,none,none,none,none]).set 6<|some x) r 5 rfl (by decide)
   refine k9 ?_
   rcases(or5 (k:=j) (by assumption) (by assumption)) with rfl|rfl|rfl|rfl|rfl
   ·exact⟨_,_,ew (z:=.d [97]) rfl ej rfl,by simp[t5]⟩
   ·exact⟨_,_,ew (z:=.d [98]) rfl ej rfl,by simp[t5]⟩
   ·exact⟨_,_,ew (z:=.d [99]) rfl ej rfl,by simp[t5]⟩
   ·exact⟨_,_,ew (z:=.d [122]) rfl ej rfl,by simp[t5]⟩
   ·exact⟨_,_,ew (z:=.f) rfl ej rfl,by simp[t5]⟩
  exact⟨_,r',cg rfl<|pre _ _<|(q3 _ _).trans<|(q4 _ _).trans<|cQ (gM (i:=k1) (r1:=r.tail.tail.tail) rfl<|ab h5)<|bR<|wU (vs:=[.d aG,.c ds]) (aV rfl<|aV ed rfl) rfl,.Lm ds (by lia) eP⟩
 ·obtain⟨ds,r',ed,el,eP⟩:=qm (ct:=aB eO) (elt:=.w (.f .Eq (.i .Mod (.h 0<|.a (.b 0) .b)<|.d 5)<|.d 4) .o<|.t<|.a (.d 3)<|.a (.d 2) .b) (i:=7) (δ:=b4 [some (false,.m),some (false,.a k1),some (false,.a k2),none,none,none,none,none]) (P:=λd=>d=.f\/d=Er) (hr _ r.tail.tail.tail rfl) λx m r=>by
   refine aU λG9 k9=>?_
   obtain⟨j,j0,j1,ej⟩:=dr ((b4 [some (false,.m),some (false,.a k1),some (false,.a k2),none,none,none,none,none]).set 7<|some x) r 5 rfl (by decide)
   refine k9 ?_
   by_cases hj:j=4
   ·exact⟨_,_,jz (X:=.c .f r.tail) (gM ej<|ab hj) rfl,.inl rfl⟩
   ·exact⟨_,_,jb (X:=.c Er r.tail) (gM ej<|al hj) rfl,.inr rfl⟩
  obtain⟨zs,rfl,hz⟩:=Vj eP
  exact⟨aS (.d bk) (zs.map λz=>z.elim .f λU=>Er) .f,r',cg rfl<|pre _ _<|(q3 _ _).trans<|(q4 _ _).trans<|(aH<|gM (i:=k1) (r1:=r.tail.tail.tail) rfl<|al h5).trans<|bR<|wU (vs:=[.d bk,.c<|zs.map λz=>z.elim .f λU=>Er]) (aV rfl<|aV ed rfl) rfl,.dbl zs (by rw[aw]at el;lia) hz⟩
theorem abW:FO=(.a (.a 20<|.m (.b 2)<|.k .pi<|.a (.p .qx (.b 2)<|.a (.m (.b 9)<|.d 0) .b)<|.a (.p .qx (.b 2)<|.a (.l (.b 12) 0) .b) .b)<|.a (.a 21<|.v (.h 6<|.a (.m (.b 9)<|.d 0)<|.a (.b 25)<|.a (.b 20) .b) 25 (.a<|.m (.b 9)<|.d 1) .b)<|.a (.e 22 (.b<|.a (.k .cn<|.a (.b 16) .b) .b)<|.a (.b (.f .IsNot (.m (.b 16)<|.b 22) .o) (.a (.h (.b 21) (.m (.b 16)<|.b 22)<|.h 6<|.a (.l (.b 12) 0)<|.a (.m (.l (.b 12) 1)<|.i .Mod (.b 22)<|.b 14)<|.a (.b 20) .b) .b) .b) .b)<|.a (.a 19<|.t<|.a (.b 20)<|.a (.b 21)<|.a (.m (.b 9)<|.d 2) .b) .b):=rfl
noncomputable abbrev F(d:DV):O:=some (false,d)
noncomputable def LS(v D L H:DV)(kd:aa av)(a8 a9 kw kE wZ kH pe pM oK kA lw iE ik ib gG:O):Sl:=
 [none,F .m,F qq,F<|.d kd,F v,F D,F L,F H,a8,a9,kw,kE,wZ,kH,pe,pM,oK,kA,lw,iE,ik,ib,gG,none,none,none]
noncomputable abbrev dF:av->Fn:=aB F6
section
variable{r:Rw}{v D L H:DV}{kd k kv:aa av}{bf cs its:aa DV}{va:aa (aa av×DV)}{l8 xo xp xq xr B4 B5 iE ik:O}
noncomputable def kP(k:aa av)(its:aa DV)(va:aa (aa av×DV)):DV:=.g [.d k,.c its,.h va]
noncomputable def PS(v D L H:DV)(kd k kv:aa av)(its bf cs:aa DV)(va:aa (aa av×DV))(to:DV)(l8 xo xp xq xr B4 B5 iE ib gG:O):Sl:=
 LS v D L H kd l8 (F<|kP k its va) xo xp (F<|aS (.d kv) bf .f) xq (F<|.a bf.length) xr (F<|.c cs) B4 B5 iE (F to) ib gG
theorem Vk(hk:k∈bQ)(hv:kv∈bQ):dv dF Im (bU<|LS v D L H kd l8 (F<|kP k its va) xo xp (F<|aS (.d kv) bf .f) xq (F<|.a bf.length) xr (F<|.c cs) B4 B5 iE ik ib gG) r=.c (.d<|jp k kv) r:=
 fm (P:=λk=>dv dF Im (bU<|LS v D L H kd l8 (F<|kP k its va) xo xp (F<|aS (.d kv) bf .f) xq (F<|.a bf.length) xr (F<|.c cs) B4 B5 iE ik ib gG) r=.c (.d<|jp k kv) r) hk
  (fm (P:=λkv=>dv dF Im (bU<|LS v D L H kd l8 (F<|kP bt its va) xo xp (F<|aS (.d kv) bf .f) xq (F<|.a bf.length) xr (F<|.c cs) B4 B5 iE ik ib gG) r=.c (.d<|jp bt kv) r) hv (by kernel_rfl) (by kernel_rfl) (by kernel_rfl) (by kernel_rfl))
  (fm (P:=λkv=>dv dF Im (bU<|LS v D L H kd l8 (F<|kP bg its va) xo xp (F<|aS (.d kv) bf .f) xq (F<|.a bf.length) xr (F<|.c cs) B4 B5 iE ik ib gG) r=.c (.d<|jp bg kv) r) hv (by kernel_rfl) (by kernel_rfl) (by kernel_rfl) (by kernel_rfl))
  (fm (P:=λkv=>dv dF Im (bU<|LS v D L H kd l8 (F<|kP bk its va) xo xp (F<|aS (.d kv) bf .f) xq (F<|.a bf.length) xr (F<|.c cs) B4 B5 iE ik ib gG) r=.c (.d<|jp bk kv) r) hv (by kernel_rfl) (by kernel_rfl) (by kernel_rfl) (by kernel_rfl))
  (fm (P:=λkv=>dv dF Im (bU<|LS v D L H kd l8 (F<|kP aG its va) xo xp (F<|aS (.d kv) bf .f) xq (F<|.a bf.length) xr (F<|.c cs) B4 B5 iE ik ib gG) r=.c (.d<|jp aG kv) r) hv (by kernel_rfl) (by kernel_rfl) (by kernel_rfl) (by kernel_rfl))
theorem Gu(h1: ∀x∈its,nw k x to<|g1 x):dv dF FN (bU<|PS v D L H kd k kv its bf cs va (.d to) l8 xo xp xq xr B4 B5 iE ib gG) r=.c (.c<|its.map g1) r:=
 wV g1 (zK (xs:=its) rfl) λx m=>bu (f:=6) (vs:=[.d k,x,.d to]) (r1:=r) rfl<|(h1 x m).2.1 r
theorem RS(h2: ∀x∈bf,nw kv x to<|g2 x)(hj:j<cs.length)(hs:lu cs (bf.map g2) xs j=some ys)(gG:O):
  bM dF [21] Kw (di (PS v D L H kd k kv its bf cs va (.d to) l8 xo xp xq xr B4 B5 iE (some (true,.c xs)) gG) 22<|.a<|0+(j:aL)) r=.a (PS v D L H kd k kv its bf cs va (.d to) l8 xo xp xq xr B4 B5 iE (some (true,.c ys))<|F<|.a<|0+(j:aL)) r:=by
 have hc:=aC hj
 have hi:=jA hc
 generalize cs[j]=p at hc hi
 cases rT hs with
 |none h e=>
  cases am (hc.symm.trans h)
  refine aK e ?_
  exact(aH<|dz (x:=.f) (y:=.f) (r1:=r) (r2:=r) (ew (x:=.c cs) (y:=.a<|0+(j:aL)) (r1:=r) (r2:=r) rfl rfl hi) rfl rfl).trans rfl
 |@int i it h hq b0 b1 e=>
    have hb:=mD.intro b0 b1
    cases am (hc.symm.trans h)
    rw[aw,bl]at hq
    obtain⟨w,hw,rfl⟩:=qu.mp hq
    subst e
    have h0:bf.length≠0:=λz=>by have:bf=[]:=EA.mp z;subst this;simp at hw
    have hm:((0+(j:aL)).fmod bf.length)=(0+((j%bf.length:av):aL)):=by
     refine aK (bZ _<|ba _) ?_
     rw[ir,ir,lS]
    have he:dv dF (.h 6<|.a (.l (.b 12) 0)<|.a (.m (.l (.b 12) 1)<|.i .Mod (.b 22)<|.b 14)<|.a (.b 20) .b) (bU<|PS v D L H kd k kv its bf cs va (.d to) l8 xo xp xq xr B4 B5 iE (some (true,.c xs))<|F<|.a<|0+(j:aL)) r=.c (g2 w) r:=
     bu (f:=6) (vs:=[.d kv,w,.d to]) (r1:=r) (aV rfl<|aV (ew (x:=.c bf) (y:=.a<|0+((j%bf.length:av):aL)) (r1:=r) (r2:=r) rfl (cT (x:=.a<|0+(j:aL)) (y:=.a bf.length) (r1:=r) (r2:=r) rfl rfl<|(jd (by lia)).trans (by rw[hm]))<|jA hw)<|aV rfl rfl) ((h2 w<|bG hw).2.1 r)
    have hp:oR (.c xs) (.a i) (g2 w)=some (.c<|xs.set i.toNat<|g2 w):=aE (fo · _)<|ql<|rP (ab hb.1)<|ab hb.2
    refine(dh (r1:=r) (r2:=r) (iZ:=PS v D L H kd k kv its bf cs va (.d to) l8 xo xp xq xr B4 B5 iE (some (true,.c<|xs.set i.toNat<|g2 w))<|F<|.a<|0+(j:aL)) (dz (x:=.a i) (y:=.f) (r1:=r) (r2:=r) (ew (x:=.c cs) (y:=.a<|0+(j:aL)) (r1:=r) (r2:=r) rfl rfl hi) rfl rfl) ?_).trans rfl
    exact(F7 he (ew (x:=.c cs) (y:=.a<|0+(j:aL)) (r1:=r) (r2:=r) rfl rfl hi) rfl hp).trans rfl
theorem Vl(h2: ∀x∈bf,nw kv x to<|g2 x): ∀(js:aa av) (xs ys:aa DV) (gG:O),(∀j∈js,j<cs.length)->kq cs (bf.map g2) js xs=some ys->
  ∃zY,dH (λx δ r=>bM dF [21] Kw (di δ 22 x) r) (js.map λ(j:av)=>.a<|0+(j:aL)) (PS v D L H kd k kv its bf cs va (.d to) l8 xo xp xq xr B4 B5 iE (some (true,.c xs)) gG) r=.a (PS v D L H kd k kv its bf cs va (.d to) l8 xo xp xq xr B4 B5 iE (some (true,.c ys)) zY) r:=λo0=>by
 induction o0 with
 |nil=>intro xs ys gG U h;cases h;exact⟨gG,rfl⟩
 |cons j js ih=>
  intro xs ys gG hj h
  obtain⟨zs,hs,h⟩:=t8 h
  obtain⟨a',q⟩:=ih zs ys (F<|.a<|0+(j:aL)) (λi m=>hj i<|.tail _ m) h
  exact⟨a',bq (RS h2 (hj j<|.head _) hs gG) q⟩
noncomputable abbrev rl(o:O):O:=o.map λp=>(false,p.2)
theorem RT(hk:k∈bQ)(hv:kv∈bQ)(hto:to=jp k kv)(h1: ∀x∈its,nw k x to<|g1 x)(h2: ∀x∈bf,nw kv x to<|g2 x)(hl:cs.length<=99)(hy:kq cs (bf.map g2) (bp cs.length) (its.map g1)=some ys)(ib gG:O):
  ∃IY zY,bM dF [21] FO (LS v D L H kd l8 (F<|kP k its va) xo xp (F<|aS (.d kv) bf .f) xq (F<|.a bf.length) xr (F<|.c cs) B4 B5 iE ik ib gG) r=.a (LS v D L H kd (rl l8) (F<|kP k its va) (rl xo) (rl xp) (F<|aS (.d kv) bf .f) (rl xq) (F<|.a bf.length) (rl xr) (F<|.c cs) (rl B4) (rl B5) (F<|kP to ys va) (F<|.d to) IY zY) r:=by
 subst hto
 obtain⟨zY,lp⟩:=Vl (r:=r) (v:=v) (D:=D) (L:=L) (H:=H) (kd:=kd) (k:=k) (its:=its) (va:=va) (l8:=l8) (xo:=xo) (xp:=xp) (xq:=xq) (xr:=xr) (B4:=B4) (B5:=B5) (iE:=iE) h2 (bp cs.length) (its.map g1) ys gG (λj m=>bE.mp m) hy
 have hr:fQ [.a (cs.length:aL)]=some ((bp cs.length).map λ(j:av)=>.a<|0+(j:aL)):=by
  show gL (decide (-9999<=(cs.length:aL))&&decide ((cs.length:aL)<=9999)) (cG 0 cs.length)=_
  refine aK (ab (by lia))<|aK (ab (by lia)) ?_
  unfold cG
  rw[show((cs.length:aL) - 0).toNat=cs.length by rfl];rfl
 refine⟨F<|.c ys,rl zY,?_⟩
 refine(ax rfl<|Vk hk hv).trans ?_
 refine(iT rfl<|Gu (kv:=kv) (kd:=kd) (to:=jp k kv) h1).trans ?_
 refine(rM (r1:=r) (b:=Kw) (ys:=[.a cs.length]) rfl hr lp).trans ?_
 exact(wh (d:=kP (jp k kv) ys va) (r1:=r) rfl rfl rfl).trans rfl
end
theorem M1{ct:av->Fn}{δ:Dl}{r r1:Rw}{e:Ex}{d:DV}(h:dv ct e δ r=.c d r1):dv ct (.H e) δ r=.c d r1:=aE EH h
theorem zZ{ct:av->Fn}{δ:Dl}{r r1:Rw}{e:Ex}{m:aa av}(h:dv ct e δ r=.e m r1)(hl:m.length<=9999):dv ct (.H e) δ r=.c (.d m) r1:=(aE EH h).trans<|rO<|ab hl
inductive s8:DV->DV->av->Prop
 |IZ:s8 mj (.d dQ) 0
 |Em {kv:aa av} {bf:aa DV}:kv∈bQ->bf.length<=6->(∀x∈bf,gJ kv x)->s8 (aS (.d kv) bf .f) (jR kv bf) bf.length
section
variable{r:Rw}{v D L H W w held A T:DV}{kd k:aa av}{ixs cs its:aa DV}{va es:aa (aa av×DV)}{n:av}{p:aL}{dims:aa aL}{a8 a9 kw kE wZ kH pe pM oK kA lw iE ik ib gG:O}{ss:ig}
theorem Vm(hp:0<=p/\p<5): ∃W w n r',s8 W w n/\bM dF [21] (.a l_4<|.a l_5 ss) (LS v D L H kd a8 a9 kw (F<|.a p) wZ kH pe pM oK kA lw iE ik ib gG) r=bM dF [21] ss (LS v D L H kd a8 a9 kw (F<|.a p) (F W) kH pe pM oK kA lw iE ik ib gG) r':=by
 by_cases h4:p<4
 ·have hk: ∃kv,kv∈bQ/\xg qq (.a p)=some (.d kv):=by
   have:=or4 (k:=p) (mD.left (by assumption)) (by assumption)
   rcases this with rfl|rfl|rfl|rfl
   ·exact⟨bt,by decide,rfl⟩
   ·exact⟨bg,by decide,rfl⟩
   ·exact⟨bk,by decide,rfl⟩
   ·exact⟨aG,by decide,rfl⟩
  refine aU λG9 k9=>?_
  obtain⟨kv,hk,hi⟩:=hk
  obtain⟨m,m0,m1,em⟩:=AS (ct:=dF) (i:=1) (δ:=bU<|LS v D L H kd a8 a9 kw (F<|.a p) (F mj) kH pe pM oK kA lw iE ik ib gG) (r:=r) rfl rfl 7 (by decide)
  refine k9 ?_
  obtain⟨ds,r',ed,el,eP⟩:=qm (ct:=dF) (elt:=.h 4<|.a (.b 1)<|.a (.m (.b 2)<|.b 11) .b) (i:=24) (δ:=bU<|LS v D L H kd a8 a9 kw (F<|.a p) (F mj) kH pe pM oK kA lw iE ik ib gG) (P:=gJ kv) (qo em (by lia)<|bz<|bd (by assumption) (by decide)) λx U r=>by
   refine aU λG9 k9=>?_
   obtain⟨d,r',e,q⟩:=KC hk r
   refine k9 ?_
   exact⟨d,r',bu (f:=4) (vs:=[.m,.d kv]) (r1:=r) (aV rfl<|aV (ew (x:=qq) (y:=.a p) (r1:=r) (r2:=r) rfl rfl hi) rfl) e,q⟩
  have hlen:ds.length<=6:=by rw[el];unfold cG;rw[aw,dR];lia
  refine⟨_,_,_,r',.Em hk hlen eP,?_⟩
  refine(ax (d:=mj) (r1:=r) rfl rfl).trans ?_
  refine dh (iZ:=LS v D L H kd a8 a9 kw (F<|.a p) (F<|aS (.d kv) ds .f) kH pe pM oK kA lw iE ik ib gG) (r1:=r) (r2:=r') (nu rfl<|ab h4) ?_
  exact(ax (d:=aS (.d kv) ds .f) (r1:=r') rfl<|wU (vs:=[.d kv,.c ds]) (aV (ew (x:=qq) (y:=.a p) (r1:=r) (r2:=r) rfl rfl hi)<|aV ed rfl) rfl).trans rfl
 ·refine⟨_,_,_,r,.IZ,?_⟩
  refine(ax (d:=mj) (r1:=r) rfl rfl).trans ?_
  exact aH<|nu (i:=p) (r1:=r) rfl<|al h4
theorem Gv(hW:s8 W w n)(r:Rw):fu [W] r=.c w r:=by
 cases hW with
 |IZ=>rfl
 |@Em kv bf hk _ _=>exact fm (P:=λkv=>fu [aS (.d kv) bf .f] r=.c (jR kv bf) r) hk rfl rfl rfl rfl
theorem Gw(h: ∀x∈xs,qJ m x=true):qJ (m+1) (.c xs)=true:=by
 show xs.all (qJ m)=true
 exact aF.mpr h
theorem YE(hW:s8 W w n):qJ 8 w=true:=by
 cases hW with
 |IZ=>exact kt _ _
 |@Em kv bf hk _ h=>
  show([DV.d kv,.c bf,.h []].all<|qJ 7)=true
  simp only[bw,qZ,gR,kt,pT,Gw λx m=>Gp (h x m) 5]
  rfl
theorem YF(hW:s8 W w n):bM dF [21] (.a l_6<|.a l_7 ss) (LS v D L H kd a8 a9 kw kE (F W) kH pe pM oK kA lw iE ik ib gG) r=bM dF [21] ss (LS v D L H kd a8 a9 kw kE (F W) (F w) (F<|.a n) pM oK kA lw iE ik ib gG) r:=by
 refine(ax (d:=w) (r1:=r) rfl<|bu (f:=9) (vs:=[W]) (r1:=r) rfl<|Gv hW r).trans ?_
 refine ax (d:=.a n) (r1:=r) rfl ?_
 cases hW with
 |IZ=>rfl
 |@Em kv bf hk _ _=>
  refine jb (r1:=r) ?_ rfl
  exact fm (P:=λkv=>gi dF (.f .Eq (.l (.b 12) 0)<|.g dQ) (bU<|LS v D L H kd a8 a9 kw kE (F<|aS (.d kv) bf .f) (F<|jR kv bf) pe pM oK kA lw iE ik ib gG) r=.c false r) hk rfl rfl rfl rfl
theorem KY(hi: ∀x∈its,gJ k x)(hA:Gs es va):qJ 8 (kP k its va)=true:=by
 show([DV.d k,.c its,.h va].all<|qJ 7)=true
 simp only[bw,qZ,gR,kt,pT,Gw λx m=>Gp (hi x m) 5,hA.ok]
theorem RU(hv: ∀r,fu [v] r=.c held r)(ho:qJ 8 held=true)(hW:s8 W w n):bM dF [21] (.a Yf ss) (LS v D L H kd a8 (F held) kw kE (F W) (F w) pe pM oK (F<|.c []) lw iE ik ib gG) r=bM dF [21] ss (LS v D L H kd a8 (F held) kw kE (F W) (F w) pe pM oK (F<|.c []) lw iE ik ib gG) r:=
 aH (lZ (DX (bu (f:=9) (vs:=[v]) (r1:=r) rfl<|hv r) (r2:=r) rfl ho)<|qj (DX (bu (f:=9) (vs:=[W]) (r1:=r) rfl<|Gv hW r) (r2:=r) rfl<|YE hW)<|qj (KO (xs:=[]) (r1:=r) rfl rfl) rfl)
theorem WD(hT: ∀r,fu [T] r=.c A r)(ho:qJ 8 A=true):bM dF [21] (.a Yg ss) (LS v D L H kd a8 a9 kw kE wZ kH pe pM oK kA (F T) (F A) ik ib gG) r=bM dF [21] ss (LS v D L H kd a8 a9 kw kE wZ kH pe pM oK kA (F T) (F A) ik ib gG) r:=
 aH (DX (bu (f:=9) (vs:=[T]) (r1:=r) rfl<|hT r) (r2:=r) rfl ho)
theorem abX:bM dF [21] (.a UC .b) (LS v D L H kd a8 a9 kw kE wZ kH pe pM oK kA (F<|.d m) iE ik ib gG) r=.a (LS v D L H kd a8 a9 kw kE wZ kH pe pM oK kA (F<|.d m) iE ik ib gG) r:=rfl
theorem abY:bM dF [21] (.a UC .b) (LS v D L H kd a8 a9 kw kE wZ kH pe pM oK kA (F<|aS (.d k) its cx) iE ik ib gG) r=.a (LS (aS (.d k) its cx) D L H kd a8 a9 kw kE wZ kH pe pM oK kA (F<|aS (.d k) its cx) iE ik ib gG) r:=by
 refine dh (r1:=r) (r2:=r) (iZ:=LS (aS (.d k) its cx) D L H kd a8 a9 kw kE wZ kH pe pM oK kA (F<|aS (.d k) its cx) iE ik ib gG) rfl ?_|>.trans rfl
 exact(ax (d:=aS (.d k) its cx) (r1:=r) rfl rfl).trans rfl
theorem RV(m:aa av)(r:Rw):fu [.d m] r=.c (.d m) r:=rfl
theorem Vn:bM dF [21] (.a y9 ss) (LS v D L H kd a8 a9 kw kE wZ kH pe (F<|.d m) oK kA lw iE ik ib gG) r=bM dF [21] ss (LS v D L H kd a8 a9 kw kE wZ kH pe (F<|.d m) oK kA lw (F<|.d m) ik ib gG) r:=
 dh (r1:=r) (r2:=r) (iZ:=LS v D L H kd a8 a9 kw kE wZ kH pe (F<|.d m) oK kA lw (F<|.d m) ik ib gG) rfl rfl
end
theorem RW: ∀{cs:aa DV},(∀p∈cs,p=.f\/ ∃i:aL,p=.a i)->NA .f cs=some (cs.any cA):=by
 intro cs h
 have h1:(cs.all λy=>(cP y .f).isSome)=true:=aF.mpr λp m=>by
  rcases h p m with rfl|⟨i,rfl⟩<;>rfl
 have h2: ∀ds:aa DV,(∀p∈ds,p=.f\/ ∃i:aL,p=.a i)->(ds.any λy=>cP y .f==some true)=ds.any cA:=by
  intro ds hd
  induction ds with
  |nil=>rfl
  |cons d ds ih=>
   rw[f7,f7,ih λp m=>hd p<|.tail _ m]
   rcases hd d (.head _) with rfl|⟨i,rfl⟩<;>rfl
 unfold NA
 rw[h1,h2 cs h];rfl
noncomputable abbrev t_z:Ex:=.q .And<|.a (.f .NotEq (.b 16)<|.r .b)<|.a (.f .Eq (.b 14)<|.d 0) .b
noncomputable abbrev t_m:Ex:=.q .And<|.a (.f .NotEq (.b 16)<|.r .b)<|.a (.f .NotEq (.i .Mod (.k .cn<|.a (.b 16) .b)<|.b 14)<|.d 0) .b
noncomputable abbrev t_n:Ex:=.q .And<|.a (.f .In .o<|.b 16)<|.a (.f .Gt (.b 14)<|.d 1) .b
noncomputable abbrev t_u:Ex:=.f .Eq (.l (.b 12) 0)<|.g dQ
section
variable{r:Rw}{v D L H W w held A T:DV}{kd k kv:aa av}{ixs cs its bf xs:aa DV}{va es:aa (aa av×DV)}{n:av}{a8 a9 kw kE wZ kH pe pM oK kA lw iE ik ib gG:O}{ss:ig}
noncomputable abbrev DS(v D L H:DV)(kd:aa av)(a8:O)(held:DV)(kw kE:O)(W:DV)(kH:O)(n:av)(xs cs:aa DV)(kA lw iE ik ib gG:O):Sl:=
 LS v D L H kd a8 (F held) kw kE (F W) kH (F<|.a n) (F<|.c xs) (F<|.c cs) kA lw iE ik ib gG
theorem DY(h:δ[16]?=some (some<|.c cs)):gi dF (.f .NotEq (.b 16)<|.r .b) δ r=.c (!cs.isEmpty) r:=KO (cO h) rfl
theorem z_t(h:δ[16]?=some (some<|.c cs))(h2:δ[14]?=some (some<|.a n))(hc:cs≠[])(hn:n=0):gi dF t_z δ r=.c true r:=by
 have q:=DY (r:=r) h
 rw[show cs.isEmpty=false from by cases cs<;>first|rfl|exact absurd rfl hc]at q
 exact dW q<|gC (gM (cO h2)<|ab (by lia)) rfl
theorem z_f(h:δ[16]?=some (some<|.c cs))(h2:δ[14]?=some (some<|.a n))(hc: ¬(cs≠[]/\n=0)):gi dF t_z δ r=.c false r:=by
 have q:=DY (r:=r) h
 by_cases e:cs=[]
 ·subst e;exact jc q
 ·rw[show cs.isEmpty=false from by cases cs<;>first|rfl|exact absurd rfl e]at q
  exact dW q<|ia<|gM (cO h2)<|al λz=>hc ⟨e,by lia⟩
theorem abZ(h:δ[16]?=some (some<|.c cs))(h2:δ[14]?=some (some<|.a n))(hn:n≠0):gi dF (.f .NotEq (.i .Mod (.k .cn<|.a (.b 16) .b)<|.b 14)<|.d 0) δ r=.c (!decide ((((cs.length%n:av)):aL)=0)) r:=
 dz (x:=.a<|(cs.length%n:av)) (y:=.a 0) (r1:=r) (r2:=r) (cT (x:=.a cs.length) (y:=.a n) (r1:=r) (r2:=r) (pJ (aV (cO h) rfl) rfl) (cO h2)<|(jd (by lia)).trans (by rw[bZ _<|ba _,lS])) rfl rfl
theorem m_t{δ:Dl}(h:δ[16]?=some (some<|.c cs))(h2:δ[14]?=some (some<|.a n))(hc:cs≠[])(hn:n≠0)(hm:cs.length%n≠0):gi dF t_m δ r=.c true r:=by
 have q:=DY (r:=r) h
 rw[show cs.isEmpty=false from by cases cs<;>first|rfl|exact absurd rfl hc]at q
 have q2:=abZ (r:=r) h h2 hn
 rw[al (by lia)]at q2
 exact dW q<|gC q2 rfl
theorem m_f{δ:Dl}(h:δ[16]?=some (some<|.c cs))(h2:δ[14]?=some (some<|.a n))(hc:cs≠[]->n≠0/\cs.length%n=0):gi dF t_m δ r=.c false r:=by
 have q:=DY (r:=r) h
 by_cases e:cs=[]
 ·subst e;exact jc q
 ·rw[show cs.isEmpty=false from by cases cs<;>first|rfl|exact absurd rfl e]at q
  have q2:=abZ (r:=r) h h2 (hc e).1
  rw[ab (by have:=(hc e).2;lia)]at q2
  exact dW q<|ia q2
theorem RX{δ:Dl}(h:δ[16]?=some (some<|.c cs))(h2:δ[14]?=some (some<|.a n))(hp: ∀p∈cs,p=.f\/ ∃i:aL,p=.a i):gi dF t_n δ r=.c (cs.any cA&&decide ((n:aL)>1)) r:=by
 have q:gi dF (.f .In .o<|.b 16) δ r=.c (cs.any cA) r:=MI (x:=.f) (y:=.c cs) (r1:=r) rfl (cO h)<|DN<|RW hp
 cases hb:cs.any cA with
 |false=>rw[hb]at q;exact jc q
 |true=>
  rw[hb]at q
  refine dW q ?_
  have g:=pK (ct:=dF) (a:=.b 14) (δ:=δ) (r:=r) (r1:=r) (i:=n) (j:=1) (cO h2) rfl
  cases hg:decide ((n:aL)>1) with
  |false=>rw[hg]at g;exact ia g
  |true=>rw[hg]at g;exact gC g rfl
theorem RY(hc:cs≠[])(hn:n=0):bM dF [21] (.a y9 ss) (DS v D L H kd a8 held kw kE W kH n xs cs kA lw iE ik ib gG) r=bM dF [21] ss (DS v D L H kd a8 held kw kE W kH n xs cs kA lw (F<|.d oX) ik ib gG) r:=
 fB (r1:=r) (r2:=r) (iZ:=DS v D L H kd a8 held kw kE W kH n xs cs kA lw (F<|.d oX) ik ib gG) rfl
  ((dh (r1:=r) (r2:=r) (iZ:=DS v D L H kd a8 held kw kE W kH n xs cs kA lw (F<|.d oX) ik ib gG) (z_t (n:=n) rfl rfl hc hn) rfl).trans rfl)
theorem RZ(hc:cs=[]):bM dF [21] (.a y9 ss) (DS v D L H kd a8 held kw kE mj kH n xs cs kA lw iE ik ib gG) r=bM dF [21] ss (DS v D L H kd a8 held kw kE mj kH n xs cs kA lw (F held) ik ib gG) r:=
 fB (r1:=r) (r2:=r) (iZ:=DS v D L H kd a8 held kw kE mj kH n xs cs kA lw (F held) ik ib gG) rfl
  ((fB (r1:=r) (r2:=r) (iZ:=DS v D L H kd a8 held kw kE mj kH n xs cs kA lw (F held) ik ib gG) (z_f (n:=n) rfl rfl λq=>q.1 hc)
   ((dh (r1:=r) (r2:=r) (iZ:=DS v D L H kd a8 held kw kE mj kH n xs cs kA lw (F held) ik ib gG) rfl rfl).trans rfl)).trans rfl)
theorem u_f(hk:kv∈bQ)(h:δ[12]?=some (some<|aS (.d kv) bf .f)):gi dF t_u δ r=.c false r:=by
 refine dz (x:=.d kv) (y:=.d dQ) (r1:=r) (r2:=r) ?_ rfl ?_
 ·exact zG (cO h) rfl
 ·exact fm (P:=λkv=>EF .Eq (.d kv) (.d dQ) r=some false) hk rfl rfl rfl rfl
theorem DZ{b:ig}(hk:kv∈bQ)(hz: ¬(cs≠[]/\n=0)){iZ:Sl}
  (h:bM dF [21] (.a (.b t_m (.a (.a 19<|.g oW) .b)<|.a (.b t_n (.a (.a 19<|.g y7) .b) FO) .b) .b) (DS v D L H kd a8 held kw kE (aS (.d kv) bf .f) kH n xs cs kA lw iE ik ib gG) r=.a iZ r):
  bM dF [21] (.a y9 ss) (DS v D L H kd a8 held kw kE (aS (.d kv) bf .f) kH n xs cs kA lw iE ik ib gG) r=bM dF [21] ss iZ r:=
 fB (r1:=r) (r2:=r) (iZ:=iZ) rfl ((fB (r1:=r) (r2:=r) (iZ:=iZ) (z_f (n:=n) rfl rfl hz)<|(fB (r1:=r) (r2:=r) (iZ:=iZ) (u_f hk rfl) h).trans rfl).trans rfl)
theorem R0(hk:kv∈bQ)(hc:cs≠[])(hn:n≠0)(hm:cs.length%n≠0):bM dF [21] (.a y9 ss) (DS v D L H kd a8 held kw kE (aS (.d kv) bf .f) kH n xs cs kA lw iE ik ib gG) r=bM dF [21] ss (DS v D L H kd a8 held kw kE (aS (.d kv) bf .f) kH n xs cs kA lw (F<|.d oW) ik ib gG) r:=
 DZ (b:=.b) hk (λq=>hn q.2) ((dh (r1:=r) (r2:=r) (iZ:=DS v D L H kd a8 held kw kE (aS (.d kv) bf .f) kH n xs cs kA lw (F<|.d oW) ik ib gG) (m_t (n:=n) rfl rfl hc hn hm) rfl).trans rfl)
theorem YG(hk:kv∈bQ)(hc:cs≠[]->n≠0/\cs.length%n=0)(hp: ∀p∈cs,p=.f\/ ∃i:aL,p=.a i)(hn:n>1/\cs.any cA=true):bM dF [21] (.a y9 ss) (DS v D L H kd a8 held kw kE (aS (.d kv) bf .f) kH n xs cs kA lw iE ik ib gG) r=bM dF [21] ss (DS v D L H kd a8 held kw kE (aS (.d kv) bf .f) kH n xs cs kA lw (F<|.d y7) ik ib gG) r:=
 DZ (b:=.b) hk (λq=>(hc q.1).1 q.2) ((fB (r1:=r) (r2:=r) (iZ:=DS v D L H kd a8 held kw kE (aS (.d kv) bf .f) kH n xs cs kA lw (F (.d y7)) ik ib gG) (m_f (n:=n) rfl rfl hc)
  ((dh (r1:=r) (r2:=r) (iZ:=DS v D L H kd a8 held kw kE (aS (.d kv) bf .f) kH n xs cs kA lw (F (.d y7)) ik ib gG) ((RX (n:=n) (r:=r) rfl rfl hp).trans (by rw[hn.2,ab (by lia)];rfl)) rfl).trans rfl)).trans rfl)
theorem Vo(hk:kv∈bQ)(hc:cs≠[]->n≠0/\cs.length%n=0)(hp: ∀p∈cs,p=.f\/ ∃i:aL,p=.a i)(hn: ¬(n>1/\cs.any cA=true)){iZ}(h:bM dF [21] FO (DS v D L H kd a8 held kw kE (aS (.d kv) bf .f) kH n xs cs kA lw iE ik ib gG) r=.a iZ r):
  bM dF [21] (.a y9 ss) (DS v D L H kd a8 held kw kE (aS (.d kv) bf .f) kH n xs cs kA lw iE ik ib gG) r=bM dF [21] ss iZ r:=
 DZ (b:=.b) hk (λq=>(hc q.1).1 q.2) ((fB (r1:=r) (r2:=r) (iZ:=iZ) (m_f (n:=n) rfl rfl hc)
  ((fB (r1:=r) (r2:=r) (iZ:=iZ) ((RX (n:=n) (r:=r) rfl rfl hp).trans (by
   cases hb:cs.any cA with
   |false=>rfl
   |true=>rw[al (λz=>hn ⟨by lia,hb⟩)];rfl)) h).trans rfl)).trans rfl)
end
inductive z0(D L H:DV)(kd:aa av)(v:DV):Sl->Prop
 |mk (a8 a9 kw kE wZ kH pe pM oK kA lw iE ik ib gG:O):z0 D L H kd v (LS v D L H kd a8 a9 kw kE wZ kH pe pM oK kA lw iE ik ib gG)
noncomputable abbrev b_4:ig:=.a Yf<|.a y9<|.a Yg<|.a UC .b
section
variable{r:Rw}{v D L H W w held A T:DV}{kd k kv:aa av}{ixs cs its bf xs:aa DV}{va es:aa (aa av×DV)}{n:av}{dims:aa aL}{a8 a9 kw kE wZ kH pe pM oK kA lw iE ik ib gG Vp IY zY:O}{l8 xo xp xq l14 xr l16:O}{ss:ig}
theorem qt(h:gA [v,.c ixs,W,.c []] r=.e m r)(hm:m.length<=9999):bM dF [21] (.a Mr<|.a Ms ss) (LS v D L H kd a8 a9 (F<|.c ixs) kE (F W) kH pe pM oK kA lw iE ik ib gG) r=bM dF [21] ss (LS v D L H kd a8 a9 (F<|.c ixs) kE (F W) kH pe pM oK (F<|.c []) (F<|.d m) iE ik ib gG) r:=
 (ax (d:=.c []) (r1:=r) rfl rfl).trans (ax (d:=.d m) (r1:=r) rfl<|zZ (bu (f:=67) (vs:=[v,.c ixs,W,.c []]) (r1:=r) rfl h) hm)
theorem B6(h:gA [v,.c ixs,W,.c []] r=.c T r):bM dF [21] (.a Mr<|.a Ms ss) (LS v D L H kd a8 a9 (F<|.c ixs) kE (F W) kH pe pM oK kA lw iE ik ib gG) r=bM dF [21] ss (LS v D L H kd a8 a9 (F<|.c ixs) kE (F W) kH pe pM oK (F<|.c []) (F T) iE ik ib gG) r:=
 (ax (d:=.c []) (r1:=r) rfl rfl).trans (ax (d:=T) (r1:=r) rfl<|M1<|bu (f:=67) (vs:=[v,.c ixs,W,.c []]) (r1:=r) rfl h)
theorem xW(hv: ∀r,fu [v] r=.c held r)(ho:qJ 8 held=true)(hW:s8 W w n)
  (hd: ∀ss,bM dF [21] (.a y9 ss) (LS v D L H kd a8 (F held) kw kE (F W) (F w) pe pM oK (F<|.c []) (F<|.d m) iE ik ib gG) r=bM dF [21] ss (LS v D L H kd l8 (F held) xo xp (F W) xq l14 xr l16 (F<|.c []) (F<|.d m) (F<|.d m) Vp IY zY) r):
  bM dF [21] b_4 (LS v D L H kd a8 (F held) kw kE (F W) (F w) pe pM oK (F<|.c []) (F<|.d m) iE ik ib gG) r=.a (LS v D L H kd l8 (F held) xo xp (F W) xq l14 xr l16 (F<|.c []) (F<|.d m) (F<|.d m) Vp IY zY) r:=
 (RU hv ho hW).trans ((hd _).trans<|(WD (RV m)<|kt _ _).trans abX)
theorem KZ(hv: ∀r,fu [v] r=.c held r)(ho:qJ 8 held=true)(hW:s8 W w n)(hT: ∀r,fu [aS (.d to) ys cx] r=.c A r)(hA:qJ 8 A=true)
  (hd: ∀ss,bM dF [21] (.a y9 ss) (LS v D L H kd a8 (F held) kw kE (F W) (F w) pe pM oK (F<|.c []) (F<|aS (.d to) ys cx) iE ik ib gG) r=bM dF [21] ss (LS v D L H kd l8 (F held) xo xp (F W) xq l14 xr l16 (F<|.c []) (F<|aS (.d to) ys cx) (F A) Vp IY zY) r):
  bM dF [21] b_4 (LS v D L H kd a8 (F held) kw kE (F W) (F w) pe pM oK (F<|.c []) (F<|aS (.d to) ys cx) iE ik ib gG) r=.a (LS (aS (.d to) ys cx) D L H kd l8 (F held) xo xp (F W) xq l14 xr l16 (F<|.c []) (F<|aS (.d to) ys cx) (F A) Vp IY zY) r:=
 (RU hv ho hW).trans ((hd _).trans<|(WD hT hA).trans abY)
theorem Gx(hD:sz)(hk:k∈bQ)(ht:to∈bQ)(ho:AY k<=AY to)(hx: ∀x∈its,gJ k x): ∃g:DV->DV,∀x∈its,nw k x to (g x):=by
 refine oO (r:=λx y=>x∈its->nw k x to y) λx=>?_
 by_cases h:x∈its
 ·refine bN (U4 hD hk ht ho<|hx x h) λy hy=>?_
  exact⟨y,λU=>hy⟩
 ·exact⟨.f,λq=>absurd q h⟩
theorem Zl(hv:iB k' dims lists v')(h:bM dF [21] ru δ r=.a (LS v' D L H kd a8 a9 kw kE wZ kH pe pM oK kA lw iE ik ib gG) r'): ∃k' v' δ' r',iB k' dims lists v'/\z0 D L H kd v' δ'/\bM dF [21] ru δ r=.a δ' r':=
 ⟨k',v',_,r',hv,.mk ..,h⟩
theorem R1(hW:s8 W w n)(hv:iB k dims lists v)(AX:mK v dims lists ixs (.ok mA))(C:jH dims mA cs)(h0:0<cs.length)(hn:n=0)(r:Rw):iS [v,.c ixs,W,.c []] r=.e oX r:=by
 cases hW with
 |IZ=>rw[Go hv AX C r,aJ h0]
 |Em h1 h2 h3=>rw[xV (X:=.c .f r) h1 hv AX C r (λq=>absurd ⟨h0,hn⟩ q) (.inl ⟨_,rfl⟩),aJ ⟨h0,hn⟩]
theorem R2(hD:sz)(hv:iB k dims lists v)(hl:L=lists)(O6:z0 (.c<|dims.map .a) L H kd v δ)(r:Rw):
  ∃k' v' δ' r',iB k' dims lists v'/\z0 (.c<|dims.map .a) L H kd v' δ'/\bM dF [21] ru δ r=.a δ' r':=by
 subst hl
 obtain⟨a8,a9,kw,kE,wZ,kH,pe,pM,oK,kA,lw,iE,ik,ib,gG⟩:=O6
 have hk:=hv.kind
 obtain⟨its,es,rfl,hlen,hits,hat⟩:=hv.ex
 refine aU λG0 k0=>?_
 obtain⟨va,hA⟩:=MZ hat
 have w3:=λr=>hA.pk k hk its r
 have I1:=KY hits hA
 obtain⟨ixs,r1,ei,eil,eix⟩:=qm (ct:=dF) (elt:=.h 11<|.a (.b 1) .b) (i:=23) (it:=.a<|.b 5) (xs:=dims.map .a) (δ:=bU<|LS (aS (.d k) its<|.h es) (.c<|dims.map .a) L H kd a8 (F<|kP k its va) kw kE wZ kH pe pM oK kA lw iE ik ib gG) (r:=r) (r1:=r) (P:=l4) (zK rfl) λx U r=>by
  refine aU λG9 k9=>?_
  obtain⟨ix,r',e,q⟩:=M0 r
  refine k9 ?_
  exact⟨ix,r',bu (f:=11) (vs:=[.m]) (r1:=r) rfl e,q⟩
 obtain⟨p,p0,p1,ep⟩:=AS (ct:=dF) (i:=1) (δ:=bU<|LS (aS (.d k) its<|.h es) (.c<|dims.map .a) L H kd a8 (F<|kP k its va) (F<|.c ixs) kE wZ kH pe pM oK kA lw iE ik ib gG) (r:=r1) rfl rfl 5 (by decide)
 obtain⟨W,w,n,r2,hW,e45⟩:=Vm (r:=r1.tail) (ss:=.a l_6<|.a l_7<|.a l_8<|.a l_9<|.a Mr<|.a Ms b_4) (v:=aS (.d k) its<|.h es) (D:=.c<|dims.map .a) (L:=L) (H:=H) (kd:=kd) (a8:=a8) (a9:=F<|kP k its va) (kw:=F<|.c ixs) (wZ:=wZ) (kH:=kH) (pe:=pe) (pM:=pM) (oK:=oK) (kA:=kA) (lw:=lw) (iE:=iE) (ik:=ik) (ib:=ib) (gG:=gG) ⟨p0,p1⟩
 rw[aw]at eil
 obtain⟨X,AX⟩:=IR hv eil eix
 have pre: ∀{gQ},bM dF [21] (.a l_8<|.a l_9<|.a Mr<|.a Ms b_4) (LS (aS (.d k) its<|.h es) (.c<|dims.map .a) L H kd a8 (F<|kP k its va) (F<|.c ixs) (F<|.a p) (F W) (F w) (F<|.a n) pM oK kA lw iE ik ib gG) r2=gQ->
   bM dF [21] ru (LS (aS (.d k) its<|.h es) (.c<|dims.map .a) L H kd a8 a9 kw kE wZ kH pe pM oK kA lw iE ik ib gG) r=gQ:=λ{gQ} h=>
  (ax (d:=kP k its va) (r1:=r) rfl<|bu (f:=9) (vs:=[aS (.d k) its<|.h es]) (r1:=r) rfl<|w3 r).trans ((ax (d:=.c ixs) (r1:=r1) rfl ei).trans<|(ax (d:=.a p) (r1:=r1.tail) rfl ep).trans<|e45.trans<|(YF hW).trans h)
 have M2:=MV hv W r2 eil
 rcases AX.ok with⟨m,rfl,hm⟩|⟨mA,rfl,hP⟩
 ·have ht:=M2.trans<|Vg hv W AX r2
  exact k0<|Zl hv<|pre<|(ax (d:=.d m) (r1:=r2) rfl<|bu (f:=12) (vs:=[.c ixs,.c<|dims.map .a,L]) (r1:=r2) rfl<|AX.Zg r2).trans<|(ax (d:=.c []) (r1:=r2) rfl<|jz (r1:=r2) rfl rfl).trans<|(qt ht<|ao (by assumption) (by decide)).trans<|xW w3 I1 hW λss=>Vn
 obtain⟨cs,C⟩:=Gg hv.GK hP
 have hC: ∀p∈cs,p=.f\/ ∃i:aL,p=.a i:=λp m=>(C.2.2.2 p m).int
 have R3: ∀{gQ},bM dF [21] (.a Mr<|.a Ms b_4) (DS (aS (.d k) its<|.h es) (.c<|dims.map .a) L H kd a8 (kP k its va) (F<|.c ixs) (F<|.a p) W (F w) n (mA.map .c) cs kA lw iE ik ib gG) r2=gQ->
   bM dF [21] ru (LS (aS (.d k) its<|.h es) (.c<|dims.map .a) L H kd a8 a9 kw kE wZ kH pe pM oK kA lw iE ik ib gG) r=gQ:=λ{gQ} h=>
  pre ((ax (d:=.c<|mA.map .c) (r1:=r2) rfl<|bu (f:=12) (vs:=[.c ixs,.c<|dims.map .a,L]) (r1:=r2) rfl<|AX.Zg r2).trans<|(ax (d:=.c cs) (r1:=r2) rfl<|jb (r1:=r2) rfl<|bu (f:=13) (vs:=[.c<|mA.map .c,.c<|dims.map .a]) (r1:=r2) rfl<|C.2.1 r2).trans h)
 by_cases hz:cs≠[]/\n=0
 ·have h0:0<cs.length:=fX.mpr hz.1
  have ht:=M2.trans<|R1 hW hv AX C h0 hz.2 r2
  exact k0<|Zl hv<|R3<|(qt ht (by decide)).trans<|xW w3 I1 hW λss=>RY hz.1 hz.2
 cases hW with
 |IZ=>
  have hc:cs=[]:=xE λq=>hz ⟨q,rfl⟩
  have ht:gA [aS (.d k) its<|.h es,.c ixs,mj,.c []] r2=.c (aS (.d k) its<|.h es) r2:=by
   rw[M2,Go hv AX C r2,aN (by rw[hc];decide)]
  exact k0<|Zl hv<|R3<|(B6 ht).trans<|KZ w3 I1 .IZ w3 I1 λss=>RZ hc
 |@Em kv bf h1 h2 h3=>
  have nz: ¬(0<cs.length/\bf.length=0):=λq=>hz ⟨fX.mp q.1,q.2⟩
  by_cases hm:cs≠[]/\cs.length%bf.length≠0
  ·have h0:0<cs.length:=fX.mpr hm.1
   have ht:gA [aS (.d k) its<|.h es,.c ixs,aS (.d kv) bf .f,.c []] r2=.e oW r2:=by
    exact aK M2<|aK (xV (X:=.c .f r2) h1 hv AX C r2 (λU q=>absurd ⟨h0,hm.2⟩ q)<|.inl ⟨_,rfl⟩)<|aK (aN nz)<|aK (aJ ⟨h0,hm.2⟩) rfl
   exact k0<|Zl hv<|R3<|(qt ht (by decide)).trans<|xW w3 I1 (.Em h1 h2 h3) λss=>R0 h1 hm.1 (λq=>nz ⟨h0,q⟩) hm.2
  have nm: ¬(0<cs.length/\cs.length%bf.length≠0):=λq=>hm ⟨fX.mp q.1,q.2⟩
  have hc:cs≠[]->bf.length≠0/\cs.length%bf.length=0:=λq=>⟨λz=>hz ⟨q,z⟩,xE λz=>hm ⟨q,z⟩⟩
  obtain⟨t1,t2,t3⟩:=KU hk h1
  obtain⟨g1,hg1⟩:=Gx hD hk t1 t2 hits
  obtain⟨g2,SS⟩:=Gx hD h1 t1 t3 h3
  have hb: ∀p∈cs,xn its.length p:=λp m=>by
   have:=C.2.2.2 p m
   have q:=hv.GK.abC
   rw[show(its.length:aL)=s6 dims by rw[hlen,hU<|ay (by decide) q.1]]
   exact this
  obtain⟨ys,hy,hyl⟩:=Gl (cells:=cs) (its:=bf.map g2) (bp cs.length) (its.map g1) (by rw[aw];exact hb) (λj m=>bE.mp m) λq=>by
   rw[aw]
   exact jY (hc<|fX.mp q).1
  have hyo: ∀y∈ys,gJ (jp k kv) y:=IV (cells:=cs) (its:=bf.map g2) (P:=gJ (jp k kv)) (λx m=>by
   obtain⟨z,mz,rfl⟩:=bb.mp m
   exact(SS z mz).2.2) _ _ _ (λx m=>by
   obtain⟨z,mz,rfl⟩:=bb.mp m
   exact(hg1 z mz).2.2) hy
  have hap:=U9 hk h1 (λr=>U1 hv r) hg1 SS (ao C.2.2.1 (by decide)) hb (λq=>jY (hc<|fX.mp q).1) (λq=>(hc<|fX.mp q).2) hy r2
  by_cases hn:bf.length>1/\cs.any cA=true
  ·rw[aJ hn]at hap
   have ht:gA [aS (.d k) its<|.h es,.c ixs,aS (.d kv) bf .f,.c []] r2=.e y7 r2:=by
    exact aK M2<|aK (xV h1 hv AX C r2 (λU U=>hap)<|.inr ⟨_,rfl⟩)<|aK (aN nz)<|aK (aN nm) rfl
   exact k0<|Zl hv<|R3<|(qt ht (by decide)).trans<|xW w3 I1 (.Em h1 h2 h3) λss=>YG h1 hc hC hn
  ·rw[aN hn]at hap
   have ht:gA [aS (.d k) its<|.h es,.c ixs,aS (.d kv) bf .f,.c []] r2=.c (aS (.d<|jp k kv) ys<|.h es) r2:=by
    exact aK M2<|aK (xV h1 hv AX C r2 (λU U=>hap)<|.inl ⟨_,rfl⟩)<|aK (aN nz)<|aK (aN nm) rfl
   obtain⟨IY,zY,hd⟩:=RT (r:=r2) (v:=aS (.d k) its<|.h es) (D:=.c<|dims.map .a) (L:=L) (H:=H) (kd:=kd) (va:=va) (l8:=a8) (xo:=F<|.c ixs) (xp:=F<|.a p) (xq:=F<|jR kv bf) (xr:=F<|.c<|mA.map .c) (B4:=F<|.c []) (B5:=F<|aS (.d<|jp k kv) ys<|.h es) (iE:=iE) (ik:=ik) hk h1 rfl hg1 SS (by have:=C.2.2.1;exact ao (by assumption) (by decide)) hy ib gG
   have hv2:iB (jp k kv) dims L (aS (.d<|jp k kv) ys<|.h es):=⟨t1,hv.GK,ys,es,rfl,by rw[hyl,aw,hlen],hyo,hat⟩
   exact k0<|Zl hv2<|R3<|(B6 ht).trans<|KZ w3 I1 (.Em h1 h2 h3) (λr=>hA.pk _ t1 ys r) (KY hyo hA) λss=>Vo h1 hc hC hn hd
end
theorem R4(hD:sz): ∀(xs:aa DV) (k:aa av) (v:DV) (δ:Sl) (r:Rw),iB k dims lists v->z0 (.c<|dims.map .a) lists H kd v δ->
  ∃k' v' δ' r',iB k' dims lists v'/\z0 (.c<|dims.map .a) lists H kd v' δ'/\dH (λx δ r=>bM dF [21] ru (di δ 8 x) r) xs δ r=.a δ' r':=λo0=>by
 induction o0 with
 |nil=>exact λk v δ r hv hs=>⟨k,v,δ,r,hv,hs,rfl⟩
 |cons x xs ih=>
  intro k v δ r hv hs
  have hs2:z0 (.c<|dims.map .a) lists H kd v (di δ 8 x):=by
   cases hs
   exact .mk (F x) ..
  refine aU λG9 k9=>?_
  refine Y5 (R2 hD hv rfl hs2 r) λk1 v1 uf r1 h9=>n7 h9 λhv1 hs1 e1=>?_
  refine Y5 (ih k1 v1 uf r1 hv1 hs1) λk2 v2 iZ r2 h9=>n7 h9 λhv2 hs2 e2=>?_
  refine k9 ?_
  exact⟨k2,v2,iZ,r2,hv2,hs2,bq e1 e2⟩
theorem M3(hD:sz):Gb:=by
 intro kd v dims lists heads r hv
 have hl:=hv.GK.cn
 refine aU λG9 k9=>?_
 obtain⟨m,m0,m1,em⟩:=AS (ct:=dF) (i:=1) (δ:=bU<|Ys kd v dims lists heads) (r:=r) rfl rfl 2 (by decide)
 refine k9 ?_
 obtain⟨xs,hx⟩: ∃xs,fQ [.a (1+m)]=some xs:=by
  have:=or2 m0 m1
  rcases this with rfl|rfl
  ·exact⟨_,rfl⟩
  ·exact⟨_,rfl⟩
 refine aU λG9 k9=>?_
 obtain⟨k',v',δ',r',hv',⟨a8,a9,kw,kE,wZ,kH,pe,pM,oK,kA,lw,iE,ik,ib,gG⟩,e⟩:=R4 hD (H:=heads) (kd:=kd) xs kd v (Ys kd v dims lists heads) r.tail hv<|.mk ..
 refine k9 ?_
 refine⟨r',?_⟩
 refine(rM (i:=8) (b:=ru) (r1:=r.tail) (ys:=[.a<|1+m]) (aV (cT (x:=.a 1) (y:=.a m) (r1:=r) rfl em rfl) rfl) hx e).trans ?_
 have hM:yc .Mult (.c [wW]) (.a<|(dims.length:aL)+1)=some (.c<|bo ((dims.length:aL)+1).toNat wW):=by
  show gL (decide (0<=(dims.length:aL)+1)&&decide ((dims.length:aL)+1<=99)) _=_
  rw[ab (by lia),ab (by lia)];rfl
 have hc:=Vf (ixs:=bo ((dims.length:aL)+1).toNat wW) hv' (aS (.d bg) [.a 1] .f) r' (by rw[iD];rfl)
 refine(ax (d:=.d FM) (r1:=r') rfl<|zZ (bu (f:=67) (vs:=[v',.c<|bo ((dims.length:aL)+1).toNat wW,aS (.d bg) [.a 1] .f,.c []]) (r1:=r') (aV rfl<|aV (cT (x:=.c [wW]) (y:=.a<|(dims.length:aL)+1) (r1:=r') (r2:=r') rfl (cT (x:=.a dims.length) (y:=.a 1) (r1:=r') (r2:=r') (pJ (vs:=[.c<|dims.map .a]) (r1:=r') rfl ?_) rfl rfl) hM) rfl) hc) (by decide)).trans ?_
 ·show some (DV.a ((dims.map DV.a).length:av))=_
  rw[aw]
 ·exact bR rfl
section
variable{r:Rw}{x:DV}{a d e m N n q:aL}{l:aa av}
noncomputable def SU(x:DV)(a d e:aL):Sl:=[some (false,x),some (false,.a a),some (false,.a d),some (false,.a e)]
noncomputable def ab1(δ:Sl)(r:Rw):bc Bool:=gi (aB nj) (.f .GtE (.b 1)<|.i .Mult (.d 10)<|.b 2) (b4 δ) r
noncomputable def ab2(δ:Sl)(r:Rw):SR:=bM (aB nj) [] (.a (.a 2<|.i .Mult (.b 2)<|.d 10)<|.a (.j 3 .Add<|.d 1) .b) δ r
noncomputable def ab3(δ:Sl)(r:Rw):bc Bool:=gi (aB nj) (.f .Lt (.b 1)<|.b 2) (b4 δ) r
noncomputable def ab4(δ:Sl)(r:Rw):SR:=bM (aB nj) [] (.a (.a 1<|.i .Mult (.b 1)<|.d 10)<|.a (.j 3 .Sub<|.d 1) .b) δ r
theorem sm(h:0<=i)(h2:i<1000000000000000000):gH i=true:=dX (bd (by decide) h) h2
theorem lb(h:0<=d/\d<=99999)(ht:decide (a>=10*d)=t):ab1 (SU x a d e) r=.c t r:=
 dz (x:=.a a) (y:=.a<|10*d) (r1:=r) (r2:=r) rfl (cT (x:=.a 10) (y:=.a d) (r1:=r) (r2:=r) rfl rfl<|je (sm (by decide) (by decide))<|sm h.1<|bF (mD.right (by assumption)) (by decide)) (by rw[←ht];rfl)
theorem wr(h:0<=d/\d<=99999):ab2 (SU x a d e) r=.a (SU x a (d*10)<|e+1) r:=
 (ax (d:=.a<|d*10) (r1:=r) rfl<|cT (x:=.a d) (y:=.a 10) (r1:=r) (r2:=r) rfl rfl<|je (sm h.1 (by lia))<|sm (by decide) (by decide)).trans rfl
theorem pN(ht:decide (a<d)=t):ab3 (SU x a d e) r=.c t r:=by rw[←ht];rfl
theorem M4(h:0<=a/\a<=99999):ab4 (SU x a d e) r=.a (SU x (a*10) d<|e - 1) r:=
 (ax (d:=.a<|a*10) (r1:=r) rfl<|cT (x:=.a a) (y:=.a 10) (r1:=r) (r2:=r) rfl rfl<|je (sm h.1 (by lia))<|sm (by decide) (by decide)).trans rfl
noncomputable def Zm(a q e:aL):Prop:=(e=0/\q<=a/\a<10*q)\/(e=1/\10*q<=a/\a<100*q)\/(e=2/\100*q<=a/\a<1000*q)\/(e= -1/\a<q/\q<=10*a)
theorem R5(hq:1<=q/\q<=4)(h:Zm n.natAbs q e)(r:Rw):zl [.g [.a n,.a q]] r=.c (.a e) r:=by
 have key: ∀{d1 e1 a2 e2:aL},jE ab1 ab2 99 (SU (.g [.a n,.a q]) n.natAbs q 0) r=.a (SU (.g [.a n,.a q]) n.natAbs d1 e1) r->jE ab3 ab4 99 (SU (.g [.a n,.a q]) n.natAbs d1 e1) r=.a (SU (.g [.a n,.a q]) a2 d1 e2) r->
   zl [.g [.a n,.a q]] r=.c (.a e2) r:=λ{d1 e1 a2 e2} h1 h2=>
  cg rfl ((ax (d:=.a n.natAbs) (r1:=r) rfl rfl).trans<|(ax (d:=.a q) (r1:=r) rfl rfl).trans<|(ax (d:=.a 0) (r1:=r) rfl rfl).trans<|(uQ h1).trans<|(uQ h2).trans<|bR rfl)
 rcases h with⟨rfl,h1,h2⟩|⟨rfl,h1,h2⟩|⟨rfl,h1,h2⟩|⟨rfl,h1,h2⟩
 ·exact key (qI<|lb (⟨bz (mD.left (by assumption)),ay (mD.right (by assumption)) (by decide)⟩)<|al (by lia))<|qI<|pN<|al<|dS.mpr (by assumption)
 ·exact key ((wi (lb (⟨bz (mD.left (by assumption)),ay (mD.right (by assumption)) (by decide)⟩)<|ab (by assumption))<|wr<|⟨bz (mD.left (by assumption)),ay (mD.right (by assumption)) (by decide)⟩).trans<|qI<|lb (⟨by lia,by lia⟩)<|al (by lia))<|qI<|pN<|al (by lia)
 ·exact key ((wi (lb (⟨bz (mD.left (by assumption)),ay (mD.right (by assumption)) (by decide)⟩)<|ab (by lia))<|wr<|⟨bz (mD.left (by assumption)),ay (mD.right (by assumption)) (by decide)⟩).trans<|(wi (lb (by lia)<|ab (by lia))<|wr (by lia)).trans<|qI<|lb (by lia)<|al (by lia))<|qI<|pN<|al (by lia)
 ·exact key (qI<|lb (by lia)<|al (by lia))<|(wi (pN<|ab (by lia))<|M4 (by lia)).trans<|qI<|pN<|al (by lia)
theorem K0(hq:1<=q/\q<=4)(hm:m=N*q)(hN:0<=N/\N<100000000000000000)(r:Rw):xk [.a m,.a q] r=.c (.a N) r:=by
 have hd:m.fdiv q=N:=by rw[hm,Int.mul_fdiv_cancel _<|jv<|mD.left (by assumption)]
 have hs:gH q=true:=sm (bz<|mD.left (by assumption))<|bF (mD.right (by assumption)) (by decide)
 refine cg rfl<|(ax (d:=.a N) (r1:=r) rfl<|cT (x:=.a m) (y:=.a q) (r1:=r) (r2:=r) rfl rfl<|(uR (jv<|mD.left (by assumption)) hs).trans (by rw[hd])).trans<|(ax (d:=.a 0) (r1:=r) rfl<|cT (x:=.a 2) (y:=.a<|m - N*q) (r1:=r) (r2:=r) rfl (cT (x:=.a m) (y:=.a<|N*q) (r1:=r) (r2:=r) rfl (cT (x:=.a N) (y:=.a q) (r1:=r) (r2:=r) rfl rfl<|je (sm hN.1<|ay (mD.right (by assumption)) (by decide)) hs) rfl) (by rw[(by lia:m - N*q=0)];rfl)).trans<|(aH<|lZ (dz (x:=.a 0) (y:=.a q) (c:=false) (r1:=r) (r2:=r) rfl rfl (by show some (decide<|(0:aL)>q)=_;rw[al (by lia)]))<|qj (jc<|dz (x:=.a 0) (y:=.a q) (c:=false) (r1:=r) (r2:=r) rfl rfl (by show some (decide<|(0:aL)=q)=_;rw[al (by lia)])) rfl).trans<|bR rfl
theorem R6(he: -1<=e/\e<=2):yc .Pow (.a 10) (.a<|15 - 1 - e)=some (.a<|10^(14 - e).toNat):=by
 have:=VC he
 rcases this with rfl|rfl|rfl|rfl<;>rfl
theorem B7(he: -1<=e/\e<=2):(0:aL)<=10^(14 - e).toNat/\(10:aL)^(14 - e).toNat<1000000000000000000:=by
 have:=VC he
 rcases this with rfl|rfl|rfl|rfl<;>decide
theorem Gy(hq:1<=q/\q<=4)(he: -1<=e/\e<=2)(ha:n.natAbs<=199)(hm:(n.natAbs:aL)*10^(14 - e).toNat=N*q)(hN:0<=N/\N<1000000000000000)(r:Rw):QV [.g [.a n,.a q],.a e,.a 15] r=.c (.a N) r:=
 cg rfl ((ax (d:=.a (15 - 1 - e)) (r1:=r) rfl rfl).trans (cQ (dz (x:=.a (15 - 1 - e)) (y:=.a 0) (r1:=r) (r2:=r) rfl rfl (by show some (decide (15 - 1 - e>=0))=_;rw[ab (by lia)])) (bR (bu (f:=21) (vs:=[.a (n.natAbs*10^(14 - e).toNat),.a q]) (r1:=r)
  (aV (cT (x:=.a n.natAbs) (y:=.a (10^(14 - e).toNat)) (r1:=r) (r2:=r) rfl (cT (x:=.a 10) (y:=.a (15 - 1 - e)) (r1:=r) (r2:=r) rfl rfl (R6 he)) (je (sm (ba _) (by lia)) (sm (B7 he).1 (B7 he).2))) rfl) (K0 hq hm ⟨hN.1,ay (mD.right (by assumption)) (by decide)⟩ r)))))
noncomputable def M5(n:aL):Int:=if n>0 then 1 else -1
theorem R7(hn:n≠0)(hq:1<=q/\q<=4)(hx:Zm n.natAbs q e)(ha:n.natAbs<=199)(hm:(n.natAbs:aL)*10^(14 - e).toNat=N*q)(hN:0<=N/\N<1000000000000000)(hl:(aQ N).length<=99)(r:Rw):AO [.g [.a n,.a q],.a 15] r=.c (.g [.a<|M5 n,.d<|aQ N,.a e]) r:=by
 have he: -1<=e/\e<=2:=by rcases hx with⟨rfl,_⟩|⟨rfl,_⟩|⟨rfl,_⟩|⟨rfl,_⟩<;>decide
 refine cg rfl<|(aH<|gM (i:=n) (r1:=r) rfl<|al hn).trans<|(ax (d:=.a e) (r1:=r) rfl<|bu (f:=22) (vs:=[.g [.a n,.a q]]) (r1:=r) rfl<|R5 hq hx r).trans<|(ax (d:=.a N) (r1:=r) rfl<|bu (f:=25) (vs:=[.g [.a n,.a q],.a e,.a 15]) (r1:=r) rfl<|Gy hq he ha hm hN r).trans<|(aH<|dz (x:=.a N) (y:=.a<|10^15) (c:=false) (r1:=r) (r2:=r) rfl rfl (by show some (decide<|N>=10^15)=_;rw[al (by rw[(by decide:(10:aL)^15=1000000000000000)];lia)])).trans<|bR<|lr (vs:=[.a<|M5 n,.d<|aQ N,.a e]) (r1:=r) (aV (r1:=r) ?_<|aV (pJ (vs:=[.a N]) (r1:=r) rfl<|zU (sm hN.1 (by lia)) (by lia)) rfl) (by simp)
 unfold M5
 by_cases h:n>0
 ·rw[aJ h];exact jz (r1:=r) (pK (i:=n) (r1:=r) rfl<|ab h) rfl
 ·rw[aN h];exact jb (r1:=r) (pK (i:=n) (r1:=r) rfl<|al h) rfl
noncomputable def lG(l:aa av):av->av
 |0=>0
 |1=>1
 |k+2=>if l[k+1]?=some 48 then lG l (k+1) else k+2
noncomputable def tlT(δ:Sl)(r:Rw):bc Bool:=gi (aB iQ) (.q .And<|.a (.f .Gt (.b 1)<|.d 1)<|.a (.f .Eq (.m (.b 0)<|.i .Sub (.b 1)<|.d 1)<|.g [48]) .b) (b4 δ) r
noncomputable def tlB(δ:Sl)(r:Rw):SR:=bM (aB iQ) [] (.a (.j 1 .Sub<|.d 1) .b) δ r
noncomputable def YH(l:aa av)(k:aL):Sl:=[some (false,.d l),some (false,.a k)]
theorem Vq: ∀(k j:av),k<=l.length->k<j->jE tlT tlB j (YH l k) r=.a (YH l<|lG l k) r:=λk=>by
 induction k with
 |zero=>intro j U hj;cases j with
  |zero=>exact absurd hj<|Vz _
  |succ j=>exact qI<|jc<|pK (i:=0) (r1:=r) rfl rfl
 |succ k ih=>intro j hk hj;cases j with
  |zero=>exact absurd hj<|Vz _
  |succ j=>cases k with
   |zero=>exact qI<|jc<|pK (i:=1) (r1:=r) rfl rfl
   |succ k=>
    replace hk:k+2<=l.length:=hk
    replace hj:k+2<j+1:=hj
    have hi:xg (.d l) (.a<|((k+2:av):aL) - 1)=some (.d [l[k+1]'(by assumption)]):=by
     show fo none (fo (if 0<=((k+2:av):aL) - 1 then(l[(((k+2:av):aL) - 1).toNat]?).map λch=>DV.d [ch]else none) _)=_
     rw[aJ (by lia),show(((k+2:av):aL) - 1).toNat=k+1 from aE Int.toNat<|jZ ((k+1:av):aL) 1,aC (by assumption)];rfl
    have hg:gi (aB iQ) (.f .Gt (.b 1)<|.d 1) (b4<|YH l ((k+2:av):aL)) r=.c true r:=pK (i:=((k+2:av):aL)) (r1:=r) rfl<|ab (by lia)
    have he: ∀t,decide (l[k+1]'(by assumption)=48)=t->gi (aB iQ) (.f .Eq (.m (.b 0)<|.i .Sub (.b 1)<|.d 1)<|.g [48]) (b4<|YH l ((k+2:av):aL)) r=.c t r:=λt ht=>
     dz (x:=.d [l[k+1]'(by assumption)]) (y:=.d [48]) (r1:=r) (r2:=r) (ew (x:=.d l) (y:=.a (((k+2:av):aL) - 1)) (r1:=r) (r2:=r) rfl rfl hi) rfl (by
      show some (decide<|[l[k+1]'(by assumption)]=[48])=_
      rw[←ht];congr 1;rw[decide_eq_decide];simp)
    rw[show lG l (k+2)=if l[k+1]?=some 48 then lG l (k+1) else k+2 from rfl]
    refine aK (aC (by assumption:k+1<l.length)) ?_
    by_cases h:l[k+1]'(by assumption)=48
    ·refine aK (aJ (by rw[h])) ?_
     have hb:tlB (YH l ((k+2:av):aL)) r=.a (YH l ((k+1:av):aL)) r:=by
      show SR.a (YH l<|((k+2:av):aL) - 1) r=_
      exact aK (show((k+2:av):aL) - 1=((k+1:av):aL) from jZ ((k+1:av):aL) 1) rfl
     exact(wi (dW hg<|gC (he true<|ab h) rfl) hb).trans<|ih j (ju (by assumption))<|Nat.le_of_lt_succ (by assumption)
    ·refine aK (aN<|λq=>h (by injection q)) ?_
     exact qI<|dW hg<|ia<|he false<|al h
theorem z7: ∀k,lG l k<=k
 |0=>bK _
 |1=>bK _
 |k+2=>by
  show(if l[k+1]?=some 48 then lG l (k+1) else k+2)<=_
  by_cases h:l[k+1]?=some 48
  ·rw[aJ h];exact fN<|z7<|k+1
  ·rw[aN h];exact bK _
theorem M6(hl:l.length<99)(r:Rw):zo [.d l] r=.c (.d<|l.take<|lG l l.length) r:=by
 have hc:Bc (.d l) (.a<|lG l l.length)=some (.d<|l.take<|lG l l.length):=by
  show gL (decide (0<=(lG l l.length:aL))&&decide ((lG l l.length:aL)<=l.length)) _=_
  have:=z7 (l:=l) l.length
  rw[ab<|ba _,ab<|dM.mpr (by assumption)];rfl
 refine cg rfl<|(ax (d:=.a l.length) (r1:=r) rfl rfl).trans<|(uQ<|Vq l.length 99 (bK _) hl).trans<|bR ?_
 show(bc.fG (Bc (.d l)<|.a<|lG l l.length) r)=_
 rw[hc];rfl
end
structure Num(n q e N:aL)(cnt p:av):Prop where
 hn:n≠0
 hq:1<=q/\q<=4
 hx:Zm n.natAbs q e
 ha:n.natAbs<=199
 hm:(n.natAbs:aL)*10^(14 - e).toNat=N*q
 hN:0<=N/\N<1000000000000000
 hl:(aQ N).length<99
 hc:lG (aQ N) (aQ N).length=cnt
 hp:max ((cnt:aL) - 1 - e) 0=p
 hp2:p<=2
noncomputable def SV(n e:aL):Int:=if n<0 then max e 0+1+1 else max e 0+1
section
variable{r:Rw}{n q e N:aL}{cnt p:av}
theorem M7(h:Num n q e N cnt p)(r:Rw):Iy [.g [.a n,.a q],.a 15] r=.c (.g [.a cnt,.a<|SV n e,.a p,.a e]) r:=by
 have hs:=R7 h.hn h.hq h.hx h.ha h.hm h.hN (by have:=h.hl;exact ju (by assumption)) r
 have hlen:((aQ N).take<|lG (aQ N) (aQ N).length).length=cnt:=by
  rw[lK]
  exact aK (rX<|z7 _)<|aK h.hc rfl
 have h5:SH .cn [.d<|(aQ N).take<|lG (aQ N) (aQ N).length]=some (.a cnt):=by
  show some (DV.a _)=_
  exact aK hlen rfl
 refine cg rfl<|(zE (vs:=[.a<|M5 n,.d<|aQ N,.a e]) (r1:=r) (bu (f:=26) (vs:=[.g [.a n,.a q],.a 15]) (r1:=r) rfl hs) rfl).trans<|(ax (d:=.a cnt) (r1:=r) rfl<|pJ (aV (bu (f:=27) (vs:=[.d<|aQ N]) (r1:=r) rfl<|M6 h.hl r) rfl) h5).trans<|(ax (d:=.a<|max e 0+1) (r1:=r) rfl rfl).trans ?_
 have hr: ∀lf:aL,bM (aB zq) [] (.a (.c<|.t<|.a (.b 5)<|.a (.b 6)<|.a (.k .pi<|.a (.i .Sub (.i .Sub (.b 5)<|.d 1)<|.b 4)<|.a (.d 0) .b)<|.a (.b 4) .b) .b) [some (false,.g [.a n,.a q]),some (false,.a 15),some (false,.a<|M5 n),some (false,.d<|aQ N),some (false,.a e),some (false,.a cnt),some (false,.a lf)] r=.b (.g [.a cnt,.a lf,.a p,.a e]) r:=λlf=>by
  refine bR ?_
  show bc.c (DV.g [.a cnt,.a lf,.a<|max ((cnt:aL) - 1 - e) 0,.a e]) r=_
  exact aK h.hp rfl
 unfold SV
 by_cases hn:n<0
 ·refine aK (aJ hn) ?_
  exact(dh (r1:=r) (r2:=r) (iZ:=[some (false,.g [.a n,.a q]),some (false,.a 15),some (false,.a<|M5 n),some (false,.d<|aQ N),some (false,.a e),some (false,.a cnt),some (false,.a<|max e 0+1+1)]) (nu (i:=n) (r1:=r) rfl<|ab hn) rfl).trans<|hr _
 ·refine aK (aN hn) ?_
  exact(aH<|nu (i:=n) (r1:=r) rfl<|al hn).trans<|hr _
noncomputable def cfS(n q:aL)(c lf p mn:aL)(o7 o8:ag (aM×DV)):Sl:=[some (false,.c [.g [.a n,.a q]]),some (false,.a 15),some (false,.a c),some (false,.a lf),some (false,.a p),some (false,.a 0),some (false,.a mn),o7,o8,none,none]
noncomputable def NI(n:aL):Int:=if n<0 then 1 else 0
theorem ab5{n e:aL}:max 1 (SV n e)<=max e 0+1+NI n/\0<=NI n:=by
 have h1:1<=max e 0+1:=cN (Tf ..) 1
 unfold SV NI
 by_cases h:n<0
 ·refine aK (aJ h)<|aK (aJ h) ?_
  exact⟨Co.mpr ⟨ay h1 (Cp (by decide)),fa _⟩,by decide⟩
 ·refine aK (aN h)<|aK (aN h) ?_
  rw[xf]
  exact⟨Co.mpr ⟨h1,fa _⟩,fa 0⟩
theorem aft{n q e:aL}(h:Zm n.natAbs q e): -1<=e/\e<=2:=by rcases h with⟨rfl,_⟩|⟨rfl,_⟩|⟨rfl,_⟩|⟨rfl,_⟩<;>decide
theorem M8{e:aL}(he: -1<=e/\e<=2): ¬((e.natAbs:aL)>=100):=vu.mpr<|bF (dM.mpr<|ya (k:=2) (ay (by decide) he.1) he.2) (by decide)
theorem R8{e m lf P c b:aL}(he: -1<=e)(h1:lf<=e+1+1+m)(hb:(P+1+e<=1/\b=1)\/P+1+e+1<=b):lf+(P+1)<=m+b+4+0:=by
 rcases hb with⟨hb,rfl⟩|hb<;>lia
theorem M9{cnt p:av}{n e C lf P:aL}(he: -1<=e/\e<=2)(hp:max ((cnt:aL) - 1 - e) 0=p)(hC:C=max (1:aL) cnt)(hlf:lf=max 1 (SV n e))(hP:P=p):
  lf+(if decide (P>0)=true then P+1 else 0)<=NI n+(if decide (C>1)=true then C+1 else 1)+4+0:=by
 refine cK (ab5 (n:=n) (e:=e)) λh1 h0=>?_
 rw[←hlf]at h1
 have hm:max e 0<=e+1:=Co.mpr ⟨WO<|fa e,cN he.1 1⟩
 have h1:=ay h1<|cN (cN hm 1) _
 have c1:(cnt:aL)<=C:=hC▸Tf ..
 have b1:1<=(if decide (C>1)=true then C+1 else 1):=by
  by_cases h:C>1
  ·rw[ab h,aJ rfl];exact ay (bz h)<|WO<|fa C
  ·rw[al h];exact fa 1
 by_cases h2:P>0
 ·refine aK (ab h2)<|aK (aJ rfl) ?_
  have hc:(cnt:aL)=P+1+e:=by
   rw[←hP]at hp
   have hx:(cnt:aL) - 1 - e=P:=by
    rcases Int.le_total ((cnt:aL) - 1 - e) 0 with h|h
    ·rw[qO h]at hp;exact absurd h2 (by rw[←hp];decide)
    ·rw[Ar h]at hp;exact hp
   refine aK hx.symm ?_
   rw[vf]
   refine aK (rb 1 e) ?_
   rw[←vf,vt,vt]
  refine R8 (c:=0) he.1 h1 ?_
  by_cases h:C>1
  ·rw[ab h,aJ rfl];exact .inr<|cN (hc▸c1) 1
  ·rw[al h];exact .inl ⟨ay (hc▸c1)<|dS.mp h,rfl⟩
 ·refine aK (al h2)<|aK (aN im) ?_
  rw[xf,xf]
  have h3:e+1+1<=4:=cN (cN he.2 1) 1
  exact ay h1<|ay (f8<|rb ..)<|ay (uj (ay h3<|Int.le_add_of_nonneg_left<|ay (by decide) b1) _)<|f8 (vf ..).symm
theorem Na(h:Num n q e N cnt p)(r:Rw):sY [.c [.g [.a n,.a q]],.a 15] r=.c (.g [.d ov,.a p]) r:=by
 have hm:=M7 h r
 have he:=aft h.hx
 obtain⟨C,hC⟩: ∃C,C=max (1:aL) cnt:=⟨_,rfl⟩
 obtain⟨lf,hlf⟩: ∃lf,lf=max (1:aL) (SV n e):=⟨_,rfl⟩
 obtain⟨P,hP⟩: ∃P,P=max (0:aL) p:=⟨_,rfl⟩
 have hPp:P=p:=hP.trans<|qO<|ba p
 have body:dH (λx δ r=>bM (aB ip) [] (.a (.a 8<|.h 29<|.a (.b 7)<|.a (.b 1) .b)<|.a (.a 2<|.k .pi<|.a (.b 2)<|.a (.m (.b 8)<|.d 0) .b)<|.a (.a 3<|.k .pi<|.a (.b 3)<|.a (.m (.b 8)<|.d 1) .b)<|.a (.a 4<|.k .pi<|.a (.b 4)<|.a (.m (.b 8)<|.d 2) .b)<|.a (.b (.f .GtE (.k .EC<|.a (.m (.b 8)<|.d 3) .b)<|.d 100) (.a (.a 5<|.k .pi<|.a (.b 5)<|.a (.i .Sub (.k .cn<|.a (.k .str<|.a (.k .EC<|.a (.m (.b 8)<|.d 3) .b) .b) .b)<|.d 2) .b) .b) .b)<|.a (.b (.f .Lt (.m (.b 7)<|.d 0)<|.d 0) (.a (.a 6<|.d 1) .b) .b) .b) (di δ 7 x) r) [.g [.a n,.a q]] (cfS n q 1 1 0 0 none none) r=
   .a (cfS n q C lf P (NI n) (some (false,.g [.a n,.a q]))<|some (false,.g [.a cnt,.a<|SV n e,.a p,.a e])) r:=by
  refine bq (uf:=cfS n q C lf P (NI n) (some (false,.g [.a n,.a q]))<|some (false,.g [.a cnt,.a<|SV n e,.a p,.a e])) (r1:=r) ?_ rfl
  refine(ax (d:=.g [.a cnt,.a<|SV n e,.a p,.a e]) (r1:=r) rfl<|bu (f:=29) (vs:=[.g [.a n,.a q],.a 15]) (r1:=r) rfl hm).trans ?_
  refine(ax (d:=.a C) (r1:=r) rfl (by rw[hC];rfl)).trans<|(ax (d:=.a lf) (r1:=r) rfl (by rw[hlf];rfl)).trans<|(ax (d:=.a P) (r1:=r) rfl (by rw[hP];rfl)).trans ?_
  refine(aH<|dz (x:=.a e.natAbs) (y:=.a 100) (c:=false) (r1:=r) (r2:=r) rfl rfl (by show some (decide<|(e.natAbs:aL)>=100)=_;rw[al<|M8 he])).trans ?_
  unfold NI
  by_cases hn:n<0
  ·refine aK (aJ hn) ?_
   exact(dh (r1:=r) (r2:=r) (iZ:=cfS n q C lf P 1 (some (false,.g [.a n,.a q]))<|some (false,.g [.a cnt,.a<|SV n e,.a p,.a e])) (nu (i:=n) (r1:=r) rfl<|ab hn) rfl).trans rfl
  ·refine aK (aN hn) ?_
   exact(aH<|nu (i:=n) (r1:=r) rfl<|al hn).trans rfl
 have Gz: ∀{δ:Dl} {a b c:Ex} {i j k:aL} (t:aM),gi (aB ip) a δ r=.c t r->dv (aB ip) b δ r=.c (.a i) r->dv (aB ip) c δ r=.c (.a j) r->dv (aB ip) (.w a b c) δ r=.c (.a (if t=true then i else j)) r:=λ{δ a b c i j k} t h1 h2 h3=>by
  cases t with
  |true=>exact jz h1 h2
  |false=>exact jb h1 h3
 refine cg rfl<|(ax (d:=.a 1) (r1:=r) rfl rfl).trans<|(ax (d:=.a 1) (r1:=r) rfl rfl).trans<|(ax (d:=.a 0) (r1:=r) rfl rfl).trans<|(ax (d:=.a 0) (r1:=r) rfl rfl).trans<|(ax (d:=.a 0) (r1:=r) rfl rfl).trans<|(nt (xs:=[.g [.a n,.a q]]) (r1:=r) rfl rfl body).trans ?_
 refine(ax (d:=.a<|lf+(if decide (P>0)=true then P+1 else 0)) (r1:=r) rfl<|cT (x:=.a lf) (r1:=r) rfl (Gz (k:=0) (i:=P+1) (j:=0) (decide<|P>0) rfl rfl rfl) rfl).trans ?_
 refine(ax (d:=.a<|NI n+(if decide (C>1)=true then C+1 else 1)+4+0) (r1:=r) rfl<|cT (x:=.a<|NI n+(if decide (C>1)=true then C+1 else 1)+4) (y:=.a 0) (r1:=r) (r2:=r) (cT (x:=.a<|NI n+(if decide (C>1)=true then C+1 else 1)) (y:=.a 4) (r1:=r) (r2:=r) (cT (x:=.a<|NI n) (r1:=r) rfl (Gz (k:=0) (i:=C+1) (j:=1) (decide<|C>1) rfl rfl rfl) rfl) rfl rfl) rfl rfl).trans ?_
 refine cQ (r1:=r) (dz (x:=.a<|lf+(if decide (P>0)=true then P+1 else 0)) (y:=.a<|NI n+(if decide (C>1)=true then C+1 else 1)+4+0) (c:=true) (r1:=r) (r2:=r) rfl rfl ?_)<|bR ?_
 ·show some (decide<|_<=_)=_
  exact aK (ab<|M9 he h.hp hC hlf hPp) rfl
 ·show bc.c (DV.g [.d ov,.a P]) r=_
  exact aK hPp rfl
theorem Vr(hN:0<=N/\N<100000000000000000)(hl:(aQ N).length<=99)(r:Rw):Dz [.a N] r=.c (.d<|aQ N) r:=by
 refine cg rfl<|(ax (d:=.a N) (r1:=r) rfl (by show bc.c (DV.a (N.natAbs:aL)) r=_;rw[(Le<|mD.left (by assumption))])).trans<|(iT (d:=.c []) (r1:=r) rfl rfl).trans<|(uQ (iZ:=[some (false,.a N),some (false,.a N),some (true,.c []),none]) (r2:=r)<|qI<|dz (x:=.a N) (y:=.a<|10^18) (c:=false) (r1:=r) (r2:=r) rfl rfl ?_).trans<|(dk (xs:=[]) (d:=.d<|aQ N) (r1:=r) rfl (pJ (vs:=[.a N]) (r1:=r) rfl<|zU (sm hN.1<|ay (mD.right (by assumption)) (by decide))<|ao (by assumption) (by decide)) (by decide)).trans<|(aH<|nu (i:=N) (r1:=r) rfl<|al<|dS.mpr<|mD.left (by assumption)).trans<|(dE (iZ:=[some (false,.a N),some (false,.a N),some (true,.c [.d<|aQ N]),none]) (r2:=r) rfl).trans<|bR ?_
 ·show some (decide<|N>=10^18)=_
  rw[al (by rw[show(10:aL)^18=1000000000000000000 from by decide];lia)]
 ·show(bc.fG (gL (decide (([DV.d<|aQ N]:aa DV).length<=99)&&decide (([aQ N]:aa (aa av)).flatten.length<=9999))<|DV.d ([aQ N]:aa (aa av)).flatten) r)=_
  rw[show([aQ N]:aa (aa av)).flatten=aQ N by simp,ab (by simp),ab<|ao (by assumption) (by decide)];rfl
noncomputable def lg(l:aa av)(p:av):aa Nat:=if 0<p then(l.take (l.length - p)++[46])++l.drop (l.length - p) else l
noncomputable def GA(n M:aL)(p:av):aa Nat:=if n<0 then [45]++lg (j4 (aQ M) ((p:aL)+1) 48) p else lg (j4 (aQ M) ((p:aL)+1) 48) p
theorem B8:(j4 l ((p:aL)+1) 48).length=max l.length (p+1):=by
 refine aP.trans<|(aE (λx=>x+l.length) iD).trans ?_
 exact(NT ..).trans<|Nat.max_comm ..
theorem z8:(lg l p).length<=l.length+1:=by
 unfold lg
 split
 ·rw[aP,aP,lK,Sw]
  refine aK (rX<|vn ..) ?_
  show l.length - p+1+(l.length - (l.length - p))<=_
  rw[vq]
  refine aK (Nu<|vn ..) ?_
  exact bK _
 ·exact Ad _
theorem pO(h:(a++b).length<=9999):yc .Add (.d a) (.d b)=some (.d<|a++b):=by
 show gL (decide<|(a++b).length<=9999) _=_
 rw[ab h];rfl
theorem Nb{l:aa av}{k:av}{i:aL}(hi:i=k)(h:k<=l.length):Bc (.d l) (.a i)=some (.d<|l.take k):=by
 subst hi
 show gL (decide (0<=(k:aL))&&decide ((k:aL)<=l.length)) _=_
 rw[ab<|ba _,ab<|dM.mpr (by assumption)];rfl
theorem Nc{l:aa av}{k:av}{i:aL}(hi:i=k)(h:k<=l.length):Jr (.d l) (.a i)=some (.d<|l.drop k):=by
 subst hi
 show gL (decide (0<=(k:aL))&&decide ((k:aL)<=l.length)) _=_
 rw[ab (by lia),ab (by lia)];rfl
theorem YI{ct:av->Fn}{δ:Dl}{r r1 r2:Rw}{a b:Ex}{x y z:DV}(ha:dv ct a δ r=.c x r1)(hb:dv ct b δ r1=.c y r2)(hz:Bc x y=some z):dv ct (.vz a b) δ r=.c z r2:=(bC ha).trans<|(bC hb).trans<|aE (bc.fG · r2) hz
theorem YJ{ct:av->Fn}{δ:Dl}{r r1 r2:Rw}{a b:Ex}{x y z:DV}(ha:dv ct a δ r=.c x r1)(hb:dv ct b δ r1=.c y r2)(hz:Jr x y=some z):dv ct (.vA a b) δ r=.c z r2:=(bC ha).trans<|(bC hb).trans<|aE (bc.fG · r2) hz
theorem afu(hp:p<=2):yc .Pow (.a 10) (.a p)=some (.a<|10^p):=by
 have:p=0\/p=1\/p=2:=by lia
 rcases this with rfl|rfl|rfl<;>rfl
theorem WE(hp:p<=2):(0:aL)<=10^p/\(10:aL)^p<=100:=by
 have:p=0\/p=1\/p=2:=by lia
 rcases this with rfl|rfl|rfl<;>decide
theorem I3(hq:1<=q/\q<=4)(ha:n.natAbs<=199)(hp:p<=2)(hM:(n.natAbs:aL)*10^p=M*q)(hM0:0<=M/\M<1000000000000000)(hl:(aQ M).length<=90)(r:Rw):uP [.g [.a n,.a q],.a p] r=.c (.d<|GA n M p) r:=by
 have hrl:=B8 (l:=aQ M) (p:=p)
 obtain⟨J,hJ⟩: ∃J,J=j4 (aQ M) ((p:aL)+1) 48:=⟨_,rfl⟩
 replace hrl:=hJ.symm▸hrl
 have h2:dv (aB ko) (.h 21<|.a (.i .Mult (.k .EC<|.a (.m (.b 0)<|.d 0) .b)<|.i .Pow (.d 10)<|.b 1)<|.a (.m (.b 0)<|.d 1) .b) (bU<|eH qi [.g [.a n,.a q],.a p]) r=.c (.a M) r:=
  bu (f:=21) (vs:=[.a<|n.natAbs*10^p,.a q]) (r1:=r) (aV (cT (x:=.a n.natAbs) (y:=.a<|10^p) (r1:=r) (r2:=r) rfl (cT (x:=.a 10) (y:=.a p) (r1:=r) (r2:=r) rfl rfl<|afu hp)<|je (sm (ba _) (by lia))<|sm (WE hp).1 (by have:=(WE hp).2;lia)) rfl) (K0 hq hM ⟨hM0.1,ay (mD.right (by assumption)) (by decide)⟩ r)
 have h3:dv (aB ko) (.p .yb (.h 23<|.a (.b 2) .b)<|.a (.i .Add (.b 1)<|.d 1)<|.a (.g [48]) .b) (bU [some (false,.g [.a n,.a q]),some (false,.a p),some (false,.a M),none]) r=.c (.d J) r:=by
  refine(bC<|bu (f:=23) (vs:=[.a M]) (r1:=r) rfl<|Vr ⟨hM0.1,ay (mD.right (by assumption)) (by decide)⟩ (ao (by assumption) (by decide)) r).trans ?_
  show(bc.fG (gL (decide ((aQ M).length<=99)&&decide (0<=(p:aL)+1)&&decide ((p:aL)+1<=99))<|DV.d<|j4 (aQ M) ((p:aL)+1) 48) r)=_
  rw[ab (ao (by assumption) (by decide)),ab (by lia),ab (by lia),←hJ];rfl
 have hpt:=z8 (l:=J) (p:=p)
 refine cg rfl<|(ax (d:=.a M) (r1:=r) rfl h2).trans<|(ax (d:=.d J) (r1:=r) rfl h3).trans ?_
 have fin:bM (aB ko) [] (.a (.b (.f .Lt (.m (.b 0)<|.d 0)<|.d 0) (.a (.c<|.i .Add (.g [45])<|.b 3) .b) .b)<|.a (.c<|.b 3) .b) [some (false,.g [.a n,.a q]),some (false,.a p),some (false,.a M),some (false,.d<|lg J p)] r=.b (.d<|GA n M p) r:=by
  unfold GA
  refine aK hJ.symm ?_
  by_cases hn:n<0
  ·refine aK (aJ hn) ?_
   exact cQ (nu (i:=n) (r1:=r) rfl<|ab hn)<|bR<|cT (x:=.d [45]) (y:=.d<|lg J p) (r1:=r) (r2:=r) rfl rfl<|pO (by simp;lia)
  ·refine aK (aN hn) ?_
   exact(aH<|nu (i:=n) (r1:=r) rfl<|al hn).trans<|bR rfl
 by_cases h0:0<p
 ·have hpe:lg J p=(J.take (J.length - p)++[46])++J.drop (J.length - p):=by unfold lg;rw[aJ h0]
  have hls:dv (aB ko) (.i .Sub (.k .cn<|.a (.b 3) .b)<|.b 1) (bU [some (false,.g [.a n,.a q]),some (false,.a p),some (false,.a M),some (false,.d J)]) r=.c (.a<|(J.length:aL) - p) r:=rfl
  have hi:(J.length:aL) - p=((J.length - p:av):aL):=by lia
  refine(dh (r1:=r) (r2:=r) (iZ:=[some (false,.g [.a n,.a q]),some (false,.a p),some (false,.a M),some (false,.d<|lg J p)]) (pK (i:=p) (r1:=r) rfl<|ab<|d8.mpr (by assumption)) ?_).trans fin
  have hb1:(J.take (J.length - p)++[46]).length<=9999:=by rw[aP,lK];simp;lia
  exact(ax (d:=.d<|lg J p) (r1:=r) rfl<|cT (x:=.d<|J.take (J.length - p)++[46]) (y:=.d<|J.drop<|J.length - p) (r1:=r) (r2:=r) (cT (x:=.d<|J.take<|J.length - p) (y:=.d [46]) (r1:=r) (r2:=r) (YI (x:=.d J) (r1:=r) rfl hls<|Nb hi<|vn ..) rfl<|pO hb1) (YJ (x:=.d J) (r1:=r) rfl hls<|Nc hi<|vn ..) (by rw[hpe];exact pO (by rw[←hpe];lia))).trans rfl
 ·have hpe:lg J p=J:=by unfold lg;rw[aN h0]
  replace fin:=hpe▸fin
  exact(aH<|pK (i:=p) (r1:=r) rfl<|al (by lia)).trans fin
theorem D0(hq:1<=q)(r:Rw):zn [.g [.a n,.a q]] r=.c .f r:=
 cg rfl ((aH rfl).trans<|cQ (pK (i:=q) (r1:=r) rfl<|ab (by assumption))<|bR rfl)
theorem GB{M:aL}{X:aa av}(hq:1<=q/\q<=4)(hf: ∀r,sY [.c [.g [.a n,.a q]],.a 15] r=.c (.g [.d ov,.a p]) r)(hx: ∀r,uP [.g [.a n,.a q],.a p] r=.c (.d X) r)(r:Rw):
  ja [.d bk,.g [.a n,.a q],.d aG,.c []] r=.c (.d X) r:=by
 have h1:QX [.g [.a n,.a q],.g [.d ov,.a p]] r=.c (.d X) r:=
  cg rfl ((ax (d:=.f) (r1:=r) rfl<|bu (f:=24) (vs:=[.g [.a n,.a q]]) (r1:=r) rfl<|D0 hq.1 r).trans<|(aH rfl).trans<|cQ rfl<|bR<|bu (f:=28) (vs:=[.g [.a n,.a q],.a p]) (r1:=r) rfl<|hx r)
 have h2:zr [.c [.g [.a n,.a q]],.a 15] r=.c (.c [.d X]) r:=by
  refine cg rfl<|(ax (d:=.c [.g [.a n,.a q]]) (r1:=r) rfl<|DH (xs:=[.g [.a n,.a q]]) (r1:=r) rfl<|k8 (a:=[.g [.a n,.a q]]) (r1:=r) ?_ rfl).trans<|(ax (d:=.g [.d ov,.a p]) (r1:=r) rfl<|bu (f:=30) (vs:=[.c [.g [.a n,.a q]],.a 15]) (r1:=r) rfl<|hf r).trans<|bR<|wV (xs:=[.g [.a n,.a q]]) (r1:=r) (λU=>.d X) rfl λx m=>?_
  ·have:gi (aB rJ) (.q .And<|.a (.f .IsNot (.b 4) .o)<|.a (.f .Gt (.m (.b 4)<|.d 1)<|.d 0) .b) ((bU<|eH ng [.c [.g [.a n,.a q]],.a 15]).set 4<|some<|.g [.a n,.a q]) r=.c true r:=
    dW (r1:=r) rfl (gC (pK (i:=q) (r1:=r) rfl<|ab<|mD.left (by assumption)) rfl)
   exact(bC<|BW this).trans rfl
  ·replace m:=(bh).mp m
   subst m
   exact bu (f:=31) (vs:=[.g [.a n,.a q],.g [.d ov,.a p]]) (r1:=r) rfl h1
 have h3:AQ [.g [.a n,.a q],.a 15] r=.c (.d X) r:=
  cg rfl (bR<|ew (x:=.c [.d X]) (y:=.a 0) (r1:=r) (r2:=r) (bu (f:=32) (vs:=[.c [.g [.a n,.a q]],.a 15]) (r1:=r) rfl h2) rfl rfl)
 have h4:BR [.d bk,.g [.a n,.a q]] r=.c (.d X) r:=
  cg rfl ((aH rfl).trans<|(aH rfl).trans<|(aH rfl).trans<|bR<|bu (f:=33) (vs:=[.g [.a n,.a q],.a 15]) (r1:=r) rfl h3)
 exact cg rfl<|(aH rfl).trans<|(aH rfl).trans<|(aH rfl).trans<|(aH rfl).trans<|(aH rfl).trans<|(aH rfl).trans<|bR<|bu (f:=41) (vs:=[.d bk,.g [.a n,.a q]]) (r1:=r) rfl h4
end
noncomputable def Nd(a q:av):Int:=if a<q then -1 else if a<10*q then 0 else if a<100*q then 1 else 2
noncomputable def WF(a q:av):Nat:=a*10^(14 - Nd a q).toNat/q
noncomputable def K1(q:av):Nat:=if q=1 then 0 else if q=2 then 1 else 2
noncomputable def SW(a q:av):Nat:=a*10^K1 q/q
noncomputable def Nf(a q:av):aa Nat:=if q=1 then []else if q=2 then [46,53]else [46]++aQ (25*(a%4):av)
noncomputable def okA(a q:av):Bool:=
 decide (q<=10*a)&&decide (a<1000*q)&&decide (a*10^(14 - Nd a q).toNat=WF a q*q)&&decide (WF a q<1000000000000000)&&decide ((aQ<|WF a q).length<99)&&decide (max ((lG (aQ<|WF a q) (aQ<|WF a q).length:aL) - 1 - Nd a q) 0=K1 q)&&
 decide (a*10^K1 q=SW a q*q)&&decide (SW a q<1000000000000000)&&decide ((aQ<|SW a q).length<=90)&&decide (lg (j4 (aQ<|SW a q) ((K1 q:aL)+1) 48) (K1 q)=aQ (a/q:av)++Nf a q)&&decide ((aQ (a/q:av)).length<=90)
theorem afv:((bp 199).all λa=>okA (a+1) 1)=true:=by decide+kernel
theorem afw:((bp 100).all λj=>okA (2*j+1) 2)=true:=by decide+kernel
theorem afx:((bp 100).all λj=>okA (2*j+1) 4)=true:=by decide+kernel
theorem afy:((bp 4).all λj=>decide<|(aQ (25*j:av)).length<=90)=true:=by decide+kernel
noncomputable def R9(n:aL)(q:av):aa Nat:=(if n<0 then [45]else [])++aQ (n.natAbs/q:av)++Nf n.natAbs q
section
variable{r:Rw}{n:aL}{q:av}
theorem Sa(hq:q=1\/q=2\/q=4)(ha:n.natAbs<=199)(hl:(aQ (n.natAbs/q:av)).length<=90)(r:Rw):rI [.d bk,.g [.a n,.a q],.d aG] r=.c (.d<|R9 n q) r:=by
 have h25:(aQ (25*(n.natAbs%4):av)).length<=90:=ah<|aF.mp afy (n.natAbs%4)<|bE.mpr<|Cm _ (by decide)
 have hdv:((n.natAbs:aL)).fdiv q=((n.natAbs/q:av):aL):=by
  refine aK (Cq _<|ba q) ?_
  rw[Int.natCast_ediv]
 have hmd:((n.natAbs:aL)).fmod 4=((n.natAbs%4:av):aL):=by
  rw[bZ _ (by decide),lS];rfl
 have hb2:=zU (i:=((25*(n.natAbs%4):av):aL)) (sm (ba _)<|d8.mpr<|aI (ui 25<|ju<|Cm _ (by decide)) (by decide:25*4<1000000000000000000))<|ao h25 (by decide)
 have hq0:(q:aL)≠0:=by rcases hq with rfl|rfl|rfl<;>decide
 have hqs:gH (q:aL)=true:=by rcases hq with rfl|rfl|rfl<;>rfl
 obtain⟨S,hS⟩: ∃S:aa av,S=if n<0 then [45]else []:=⟨_,rfl⟩
 have hSl:S.length<=1:=by rw[hS];split<;>decide
 have e1:dv (aB i8) (.i .Add (.w (.f .Lt (.m (.b 1)<|.d 0)<|.d 0) (.g [45])<|.g [])<|.k .str<|.a (.i .FloorDiv (.b 2)<|.m (.b 1)<|.d 1) .b) (bU [some (false,.d bk),some (false,.g [.a n,.a q]),some (false,.a n.natAbs),none]) r=.c (.d<|S++aQ (n.natAbs/q:av)) r:=by
  refine cT (x:=.d S) (y:=.d<|aQ (n.natAbs/q:av)) (r1:=r) (r2:=r) ?_ (pJ (aV (cT (x:=.a n.natAbs) (y:=.a q) (z:=.a (n.natAbs/q:av)) (r1:=r) (r2:=r) rfl rfl<|(uR hq0 hqs).trans (by rw[hdv])) rfl)<|zU (i:=((n.natAbs/q:av):aL)) (sm (ba _)<|d8.mpr<|aI (ao (Nat.div_le_self ..) ha) (by decide))<|ao hl (by decide))<|pO (by rw[aP];exact ao (tA hSl hl) (by decide))
  refine aK hS ?_
  by_cases h:n<0
  ·rw[aJ h];exact jz (r1:=r) (nu (i:=n) (r1:=r) rfl<|ab h) rfl
  ·rw[aN h];exact jb (r1:=r) (nu (i:=n) (r1:=r) rfl<|al h) rfl
 have h4:dv (aB i8) (.i .Add (.g [46])<|.k .str<|.a (.i .Mult (.d 25)<|.i .Mod (.b 2)<|.d 4) .b) (b4 [some (false,.d bk),some (false,.g [.a n,.a q]),some (false,.a n.natAbs),some (false,.d<|S++aQ (n.natAbs/q:av))]) r=.c (.d<|[46]++aQ (25*(n.natAbs%4):av)) r:=
  cT (x:=.d [46]) (y:=.d<|aQ (25*(n.natAbs%4):av)) (r1:=r) (r2:=r) rfl (pJ (aV (cT (x:=.a 25) (y:=.a ((n.natAbs%4:av):aL)) (z:=.a ((25*(n.natAbs%4):av):aL)) (r1:=r) (r2:=r) rfl (cT (x:=.a n.natAbs) (y:=.a 4) (r1:=r) (r2:=r) rfl rfl<|(jd (by decide)).trans (by rw[hmd]))<|(je (sm (by decide) (by decide))<|sm (ba _)<|d8.mpr<|eE (Cm _ (by decide)) (by decide:4<=1000000000000000000)).trans (by rw[Int.natCast_mul];rfl)) rfl) hb2) (pO (by rw[aP];exact ao (bV h25 1) (by decide)))
 have e2:dv (aB i8) (.m (.qa [1,2,4]<|.a (.g [])<|.a (.g [46,53])<|.a (.i .Add (.g [46])<|.k .str<|.a (.i .Mult (.d 25)<|.i .Mod (.b 2)<|.d 4) .b) .b)<|.m (.b 1)<|.d 1) (b4 [some (false,.d bk),some (false,.g [.a n,.a q]),some (false,.a n.natAbs),some (false,.d<|S++aQ (n.natAbs/q:av))]) r=.c (.d<|Nf n.natAbs q) r:=by
  refine ew (x:=.o [(1,.d []),(2,.d [46,53]),(4,.d<|[46]++aQ (25*(n.natAbs%4):av))]) (y:=.a q) (r1:=r) (r2:=r) ?_ rfl ?_
  ·exact bC<|aV (r1:=r) rfl<|aV (r1:=r) rfl<|aV (r2:=r) (vs:=[]) h4 rfl
  ·rcases hq with rfl|rfl|rfl<;>rfl
 have htl:(Nf n.natAbs q).length<=91:=by
  unfold Nf
  split
  ·decide
  ·split
   ·decide
   ·rw[aP];exact bV h25 1
 have h1:pH [.d bk,.g [.a n,.a q]] r=.c (.d<|R9 n q) r:=by
  refine cg rfl<|(aH rfl).trans<|(aH rfl).trans<|(aH rfl).trans<|(aH<|gM (i:=q) (r1:=r) rfl<|al hq0).trans<|(ax (d:=.a n.natAbs) (r1:=r) rfl rfl).trans<|(ax (d:=.d<|S++aQ (n.natAbs/q:av)) (r1:=r) rfl e1).trans<|bR<|cT (x:=.d<|S++aQ (n.natAbs/q:av)) (y:=.d<|Nf n.natAbs q) (r1:=r) (r2:=r) rfl e2 ?_
  unfold R9
  refine aK hS.symm ?_
  exact pO (by rw[aP,aP];exact ao (tA (tA hSl hl) htl) (by decide))
 exact cg rfl<|(aH rfl).trans<|cQ rfl<|bR<|bu (f:=5) (vs:=[.d bk,.g [.a n,.a q]]) (r1:=r) rfl h1
theorem D4(hq:q=1\/q=2\/q=4)(hn:n≠0)(ha:n.natAbs<=199)(h:okA n.natAbs q=true): ∃l,l.length<=999/\(∀r,ja [.d bk,.g [.a n,.a q],.d aG,.c []] r=.c (.d l) r)/\ ∀r,rI [.d bk,.g [.a n,.a q],.d aG] r=.c (.d l) r:=by
 unfold okA at h
 simp only[be,g0]at h
 refine aU λG9 k9=>?_
 obtain⟨⟨⟨⟨⟨⟨⟨⟨⟨⟨h1,h2⟩,h3⟩,h4⟩,h5⟩,h6⟩,h7⟩,h8⟩,h9⟩,Mo⟩,h11⟩:=h
 refine k9 ?_
 have hp:K1 q<=2:=by rcases hq with rfl|rfl|rfl<;>decide
 have hx:Zm n.natAbs q (Nd n.natAbs q):=by
  unfold Zm Nd
  split
  ·exact .inr<|.inr<|.inr ⟨rfl,d8.mpr (by assumption),dM.mpr h1⟩
  ·split
   ·exact .inl ⟨rfl,dM.mpr (x7 (by assumption)),d8.mpr (by assumption)⟩
   ·split
    ·exact .inr<|.inl ⟨rfl,dM.mpr (x7 (by assumption)),d8.mpr (by assumption)⟩
    ·exact .inr<|.inr<|.inl ⟨rfl,dM.mpr (x7 (by assumption)),d8.mpr h2⟩
 have hq4:1<=(q:aL)/\(q:aL)<=4:=by rcases hq with rfl|rfl|rfl<;>decide
 have N:Num n q (Nd n.natAbs q) (WF n.natAbs q) (lG (aQ<|WF n.natAbs q) (aQ<|WF n.natAbs q).length) (K1 q):=
  ⟨hn,hq4,hx,ha,by have:=aE (λk:av=>(k:aL)) h3;simpa using this,⟨ba _,d8.mpr h4⟩,h5,rfl,h6,hp⟩
 have afB:=I3 (n:=n) (q:=q) (p:=K1 q) (M:=SW n.natAbs q) hq4 ha hp (by have:=aE (λk:av=>(k:aL)) h7;simpa using this) ⟨ba _,d8.mpr h8⟩ h9
 have hX:GA n (SW n.natAbs q) (K1 q)=R9 n q:=by
  unfold GA R9
  refine aK Mo ?_
  split<;>simp
 have hlen:(GA n (SW n.natAbs q)<|K1 q).length<=999:=by
  have a1:=z8 (l:=j4 (aQ<|SW n.natAbs q) ((K1 q:aL)+1) 48) (p:=K1 q)
  have a4:=ao a1<|fy<|ao (cX<|B8 (l:=aQ<|SW n.natAbs q) (p:=K1 q))<|adP.mpr ⟨h9,ao (fy hp) (by decide)⟩
  unfold GA
  split
  ·rw[aP];exact ao (bV a4 1) (by decide)
  ·exact ao a4 (by decide)
 refine⟨GA n (SW n.natAbs q)<|K1 q,hlen,λr=>GB (M:=0) hq4 (Na N) afB r,λr=>?_⟩
 refine aK hX ?_
 exact Sa hq ha h11 r
theorem Sb:sz:=by
 intro x hx
 obtain⟨n,q,rfl,h⟩:=hx
 rcases h with⟨rfl,h1,h2⟩|⟨rfl,h1,h2⟩|⟨h0,h3,h1,h2⟩
 ·have:n=0\/n=1\/n= -1:=by lia
  rcases this with rfl|rfl|rfl
  ·exact⟨QE,by decide,λr=>by kernel_rfl,λr=>by kernel_rfl⟩
  ·exact⟨QD,by decide,λr=>by kernel_rfl,λr=>by kernel_rfl⟩
  ·exact⟨Ij,by decide,λr=>by kernel_rfl,λr=>by kernel_rfl⟩
 ·by_cases hn:n=0
  ·subst hn
   exact⟨[48],by decide,λr=>by kernel_rfl,λr=>by kernel_rfl⟩
  ·have hp:=Int.natAbs_pos.mpr hn
   have ha:=ya (k:=199) (ay (by decide) h1) h2
   have t:=aF.mp afv (n.natAbs - 1)<|bE.mpr<|eE (adO hp acS) ha
   rw[vo hp]at t
   exact D4 (q:=1) (.inl rfl) hn ha t
 ·have hj:=Ti h3
  have ha:=ya (k:=199) (ay (by decide) h1) h2
  have hn:n≠0:=λz=>absurd (z▸h3:(0:aL)%2=1) (by decide)
  have ab7:=Ld<|aI ha (by decide:199<2*100)
  rcases h0 with rfl|rfl
  ·have t:=aF.mp afw (n.natAbs/2)<|bE.mpr ab7
   rw[hj]at t
   exact D4 (q:=2) (.inr<|.inl rfl) hn ha t
  ·have t:=aF.mp afx (n.natAbs/2)<|bE.mpr ab7
   rw[hj]at t
   exact D4 (q:=4) (.inr<|.inr rfl) hn ha t
end
theorem ab8:Gb:=M3 Sb
noncomputable def Sd:Sl:=[none,some (false,.m),none,none,none,none,none,none,none,none,none,none,none,none,none,none,none,none,none,none,none,none,none,none,none,none]
theorem Ng(r:Rw): ∃r2,bM (aB F6) [21] za Sd r=.b (.j true) r2:=by
 refine aU λG9 k9=>?_
 obtain⟨k,k0,k1,ek⟩:=AS (ct:=aB F6) (i:=1) (δ:=bU [none,some (false,.m),some (false,qq),none,none,none,none,none,none,none,none,none,none,none,none,none,none,none,none,none,none,none,none,none,none,none]) (r:=r) rfl rfl 4 (by decide)
 refine k9 ?_
 have hkd: ∃kd,kd∈bQ/\xg qq (.a k)=some (.d kd):=by
  have h:k=0\/k=1\/k=2\/k=3:=or4 (by assumption) (by assumption)
  rcases h with h|h|h|h<;>rw[h]
  ·exact⟨bt,.head _,rfl⟩
  ·exact⟨bg,.tail _<|.head _,rfl⟩
  ·exact⟨bk,.tail _<|.tail _<|.head _,rfl⟩
  ·exact⟨aG,.tail _<|.tail _<|.tail _<|.head _,rfl⟩
 refine aU λG9 k9=>?_
 refine bN hkd λkd h9=>cK h9 λhk hi=>?_
 refine ex5 (zO hk r.tail) λdims v lists heads r1 h9=>cK h9 λe hv=>?_
 refine bN (ab8 kd v dims lists heads r1 hv) λr2 e2=>?_
 refine k9 ?_
 refine⟨r2,(ax (d:=qq) (r1:=r) rfl rfl).trans<|(ax (d:=.d kd) (r1:=r.tail) rfl<|ew (x:=qq) (r1:=r) rfl ek hi).trans<|(zE (vs:=[v,.c<|dims.map .a,lists,heads]) (r1:=r1) (bu (f:=68) (vs:=[.m,.d kd]) (r1:=r.tail) rfl e) rfl).trans e2⟩
theorem B9(h:Sd[i]?=some (some p)):i=1/\p=(false,.m):=by
 cases i with
 |zero=>cases h
 |succ i=>
  cases i with
  |zero=>cases h;exact⟨rfl,rfl⟩
  |succ i=>
   have h:(bo 24 (none:ag (aM×DV)))[i]?=some (some p):=h
   replace h:=((qw)).symm.trans h
   split at h<;>cases h
noncomputable abbrev Cx.cx(c:Cx)(a:az):Cx:={c with row:=some a}
theorem Nh{c c':Cx}{h h':cy}{vs:aa ak}{is:aa aL}{H H':az->Prop}(x:e8 c H h vs (is.map .a)):e8 c' H' h' vs (is.map .a):=⟨x.cn,λi v d e1 e2=>by
 obtain⟨j,_,rfl⟩:=bb.mp<|bG e2
 obtain⟨t,rfl⟩:=(x.cx i v _ e1 e2).pk
 exact .int j t⟩
section
variable{F:Fx}{H:az->Prop}{r r2:Rw}{s s2:af}
theorem Wd.cx{c:Cx}{a:az}{n:av}{vs:aa ak}{is:aa aL}(W:Wd c r s)(hb:c.cV.get? a=none)(hl:is.length<=9999)(ho:s.heap.get? a=some (eZ vs n))(hs:e8 c H s.heap vs (is.map .a)):Wd (c.cx a) is.reverse s:=
 ⟨W.same,W.cV,λb e=>by
  cases e
  exact⟨hb,by rw[mR];exact hl,n,vs,ho,by rw[Ji];exact Nh hs⟩,W.wE⟩
theorem Gd.cx{P:Pt}{a:az}{n:av}{us:aa ak}{is:aa aL}{H':az->Prop}(G:Gd F P r s)(hb:F.c.cV.get? a=none)(hn:s2.heap.get? a=none)(hfr: ∀b,b∈jU F.du\/yi F.au b-> ∃o,s2.heap.get? b=some o)(hl:is.length<=9999)
  (ho:s.heap.get? a=some (eZ us n)) (hs:e8 F.c H' s.heap us (is.map .a)) (hP:P.vs[1]?=some (some<|.ref a)):eK ⟨{F with c:=F.c.cx a},λU=>cC,none⟩ O0 P.vs Sd is.reverse s:=by
 have nx: ∀b,(b∈jU F.du\/yi F.au b)-> ¬Xe (F.c.cx a) b:=λb m x=>x.elim (λe=>by
  obtain⟨o,q⟩:=hfr b m
  cases e
  exact nn (hn.symm.trans q)) λe=>m.elim (λm=>(G.er.apart b m).2.2 (.inr e)) λm=>(G.ic b m).2.2 (.inr e)
 refine⟨⟨G.wd.cx hb hl ho hs,⟨G.er.frames,G.er.cE,λb m=>⟨.inl<|.inl<|.inl m,(G.er.apart b m).2.1,nx b<|.inl m⟩,G.er.depth,G.er.units,G.er.handled⟩,G.ev,λb m=>⟨.inl<|.inl<|.inr<|.inl m,(G.ic b m).2.1,nx b<|.inr m⟩,λb x=>.inl<|.inl<|.inr<|.inr x,λb q=>?_,λi d e=>?_⟩,λi d e=>?_,λi j b m=>(nomatch m),λi b m=>(nomatch m),λv d e=>nn e⟩
 ·rcases q with((q|q|q)|q)|⟨i,m⟩
  ·exact G.iu b (G.er.apart b q).1
  ·exact G.iu b (G.ic b q).1
  ·rcases q with q|q
   ·cases q
    exact⟨_,ho⟩
   ·exact G.iu b<|G.hx b<|.inr q
  ·exact q.elim
  ·exact nomatch m
 ·obtain⟨yu,e⟩:=B9<|gj.mp e
  refine aK yu ?_
  cases e
  exact⟨_,hP,.row rfl⟩
 ·cases(B9 e).2
end
theorem Ni{F}{v}{x}(p:PC F.c)(K:jn F v)(h:Uv sg (.a 1<|.h 69<|.a (.b 0) .b) v x=true):
  Bw VW F 1 (exec x F.au) (λδ r=>(mE (aB []) (.a (.b 0) .b) δ r).bind λvs r=>pI vs r):=pE (m:=λst=>Bw VW F 1 (exec st F.au) _) h λt w q h=>fh (m:=λt=>Bw VW F 1 (exec (.Assign [t] w q) F.au) _) h λy py h=>by
 refine aU λG9 k9=>?_
 refine cK (aT h) λh1 h=>?_
 refine cK (aT h) λh2 h3=>?_
 refine k9 ?_
 have S0:=K.wJ h1
 have sw:dB w (some<|.Name y py) q.line F.au=pure false:=by
  rcases aZ.mp h3 with h|h
  ·exact gW h
  ·exact FH (by rw[K.Ur];exact(aZ.mp h).elim (λh=>ff h) λh=>by simpa using h)
 refine S.Za E5 (gy (m:=λw=>S F VW (eval w F.au) _) h2 λn np args pos h=>?_) sw S0.gv S0.hk
 refine aU λG9 k9=>?_
 refine cK (aT h) λU h=>?_
 refine cK (aT h) λh4 h=>?_
 refine cK (aT h) λh5 h=>?_
 refine cK (aT h) λh6 h=>?_
 refine cK (aT h) λh7 h8=>?_
 refine k9 ?_
 have L:=okL (.a (.b 0) .b) F v args (p.QN QZ) K h8
 exact .call p.ok (Mw p) (K.lv▸ah h7) CN (p.Cw▸ah h4) ((eq_of_beq h5).trans (Ag p.iG 69).symm) (K.iL h6) L.plain L.sl
theorem Vs{F:Fx}(p:PC F.c)(p1: ∀a,PC<|F.c.cx a){H:az->Prop}{r:Rw}{s:af}{u:ak}{zs:aa aL}(hl:iA.fg+1<=F.lv)(C:Cl F H r s)(D:dm F.c H s.heap u (gf zs)):
  cW F.M F.A (.call (.ref<|F.c.ue 70) ⟨[u],[]⟩) (λq s'=>q=.ok (.ret<|.bool true)/\ ∃a r',Wd (F.c.cx a) r' s') s:=by
 refine aU λG9 k9=>?_
 obtain @⟨fd,body,A,fit,code⟩:=p.Zg
 obtain⟨o,hK,hd⟩:=A.K
 refine k9 ?_
 refine mJ p.ok A.D hK hd A.code (λs K=>A.bind s [u] K rfl) rfl C λau h1 uH En=>?_
 have V:=En.gds (fg:=iA.fg) (uH:=uH) C hl (O:=O0) (δ:=eH iA [gf zs]) (r:=r) BF (λi j b m=>nomatch m) (pn:=none) (λv e=>nn e) λi q e=>by
  obtain⟨d,e1,PG⟩:=vT (I:=iA) e
  refine aK PG ?_
  cases i with
  |zero=>cases e1;exact⟨u,rfl,λU=>D,λz=>by cases z⟩
  |succ i=>exact nn e1
 cases body with
 |nil=>exact ff fit
 |cons x xs=>
  have fit:(Uv sg (.a 1<|.h 69<|.a (.b 0) .b) ⟨iA.fg,fd.scope.names,iA.Λ,true⟩ x&&ou sg za ⟨iA.fg,fd.scope.names,iA.Λ,true⟩ xs)=true:=fit
  refine aU λG9 k9=>?_
  obtain⟨f1,f2⟩:=aT fit
  have K:jn (F.dw iA.fg iA.Λ au) ⟨iA.fg,fd.scope.names,iA.Λ,true⟩:=⟨rfl,aE GZ En.of.sc,(aE K9 En.of.sc).trans A.D.kind,rfl,λz=>⟨En.of.code.trans (code z).1,by rw[En.of.qual];exact(code z).2⟩⟩
  obtain⟨is,hi,ei⟩:=DM zs r
  refine k9 ?_
  refine iq<|aq (Ni (F:=F.dw iA.fg iA.Λ au) p K f1 _ r _ (λd U=>d=gf is) (λU U=>cC) (λf s'=>f=.next/\wpAny F.M (F.A.deeper au) (execs xs au) (λf s'=>f=.ret (.bool true)/\ ∃a r',Wd (F.c.cx a) r' s') (λU U=>cC) s') V.g ?_ ?_) (λf s' q=>?_) λe s' q=>PX.no q
  ·show(bc.bind (.c [gf zs] r) λvs r=>pI vs r).wp _ _
   show(pI [gf zs] r).wp _ _
   refine aK ei ?_
   rfl
  ·rintro v d s2 r2 ⟨L,DL,nL⟩ AE rfl
   refine⟨rfl,?_⟩
   rcases DL with DL|DL
   ·obtain @⟨a,n,us,rfl,rfl,ho,_,hs⟩:=DL
    have hn:=nL a<|.head _
    have G:=Gd.cx AE.g (V.g.wd.gb hn) hn (λb m=>V.g.iu b<|m.elim (λm=>.inl<|.inl<|.inl m) λm=>.inl<|.inl<|.inr<|.inl m) (ao hi (by decide)) ho hs rfl
    obtain⟨r3,e3⟩:=Ng is.reverse
    have T:=abn (mu:=[21]) za ⟨{F.dw iA.fg iA.Λ au with c:=F.c.cx a},λU=>cC,none⟩ ⟨iA.fg,fd.scope.names,iA.Λ,true⟩ xs ((p1 a).QN<|Q0<|p1 a) ⟨K.lv,K.nm,K.kind,K.Λ,K.g⟩ ⟨⟨F.du,rfl⟩,⟨_,En.fr⟩⟩ (λU=>rfl) f2
    refine aq (T _ _ _ _ _ ⟨λU U=>cC,λd U=>d=.j true,λU U=>cC,λU U=>cC⟩ G (by rw[e3];rfl)) (λf s3 q=>?_) λe s3 q=>?_
    ·cases f with
     |ret w=>
      cases q with
      |val D T q=>
       subst q
       cases D
       exact⟨rfl,a,_,T.wd⟩
      |nF _ _ _ q=>exact q.elim
     |next=>
      refine aU λG9 k9=>?_
      obtain⟨_,_,_,q⟩:=q
      refine k9 ?_
      exact q.elim
     |brk=>exact q.elim
     |cont=>exact q.elim
    ·obtain⟨_,_,_,q,_,_⟩:=q
     exact q.elim
   ·obtain⟨_,_,_,_,_,_,_,ed,_⟩:=DL
    cases ed
  ·obtain⟨ab9,q⟩:=q
   refine aK ab9 ?_
   refine aq q (λf s3 q=>?_) λU U q=>q.elim
   obtain⟨aca,q⟩:=q
   refine aK aca ?_
   exact⟨rfl,q⟩
noncomputable def fnL:aa (av×az):=[(0,793),(1,800),(2,807),(3,812),(4,819),(5,826),(6,833),(7,838),(8,838),(9,838),(10,845),(11,855),(12,862),(13,867),(14,167),(15,174),(16,188),(17,202),(18,228),(19,233),(20,221),(21,292),(22,299),(23,306),(24,313),(25,320),(26,327),(27,334),(28,348),(29,355),(30,362),(31,369),(32,374),(33,382),(34,431),(35,438),(36,257),(37,271),(38,285),(39,487),(40,480),(41,494),(42,508),(43,501),(44,534),(45,539),(46,553),(47,560),(48,565),(49,572),(50,579),(51,593),(52,600),(53,607),(54,648),(55,662),(56,669),(57,676),(58,683),(59,690),(60,697),(61,704),(62,718),(63,725),(64,732),(65,746),(66,760),(67,779),(68,850),(69,786),(70,872),(1000,103),(1001,60),(1002,81),(2000,110),(9000,41)]
noncomputable def sI(n:av):Addr:=(fnL.lookup n).getD 0
noncomputable def w4(k:av):Addr:=if k=0 then 113 else if k=1 then 63 else if k=2 then 84 else 44
noncomputable def afC:PySem.Data->ag fe
 |.func fd=>some fd
 |_=>none
noncomputable def D5(K:uh)(a:az):ag FuncData:=(K.lookup a).bind λo=>afC o.data
theorem Nj{K}{a}{fd}(h:D5 K a=some fd): ∃o,K.lookup a=some o/\o.data=.func fd:=by
 refine bN (eA.mp h) λo h9=>cK h9 λho h=>?_
 refine⟨o,ho,?_⟩
 cases q:o.data with
 |func _=>rw[q]at h;exact aE _ (am h)
 |_=>rw[q]at h;exact nn h
noncomputable def I4(fd:fe)(f:aa d6->aM):Bool:=
 match fd.body with
 |.stmts b=>f b
 |.expr _=>false
theorem I5(h:I4 fd f=true): ∃b,fd.body=.stmts b/\f b=true:=by
 unfold I4 at h
 cases e:fd.body with
 |stmts b=>rw[e]at h;exact⟨b,rfl,h⟩
 |expr _=>rw[e]at h;exact ff h
noncomputable def I6:aa b9->aa (ag b9)->aM
 |[],_=>true
 |p::ps,l=>match l with
  |[]=>false
  |o::Λ=>o==some p&&I6 ps Λ
noncomputable def WG(fd:fe)(ps:aa b9)(Λ:aa (ag b9)):Bool:=
 fd.closure.isEmpty&&(fd.scope.kind==.function&&(!fd.scope.isCoroutine&&(!fd.scope.isGenerator&&(fd.globals==cf&&(fd.builtins==hY&&
 (decide (fd.scope.names.map (λx=>x.1)).Nodup&&((ps.all λx=>fd.scope.names.lookup x==some .local||fd.scope.names.lookup x==some .cell)&&(I6 ps Λ&&(decide (Λ.filterMap id).Nodup&&decide ps.Nodup)))))))))
theorem I7: ∀{Λ:aa (ag b9)},I6 ps Λ=true->ps.length<=Λ.length/\ ∀(i:av) x,ps[i]?=some x->Λ[i]?=some (some x):=by
 induction ps with
 |nil=>exact λU=>⟨bD _,λi x h=>nn h⟩
 |cons p ps ih=>
  intro Λ h
  cases Λ with
  |nil=>exact ff h
  |cons o Λ=>
   obtain⟨h0,h⟩:=aT h
   obtain⟨h1,h2⟩:=ih h
   refine⟨fy h1,λi x e=>?_⟩
   cases i with
   |zero=>cases am e;exact aE some<|eq_of_beq h0
   |succ i=>exact h2 i x e
theorem Vt{Λ:aa (ag b9)}:(Λ.filterMap id).Nodup-> ∀(i j:av) x,Λ[i]?=some (some x)->Λ[j]?=some (some x)->i=j:=by
 induction Λ with
 |nil=>exact λU i j x h=>nn h
 |cons o Λ ih=>
  intro hn i j x h h'
  have hm: ∀(k:av) z,Λ[k]?=some (some z)->z∈Λ.filterMap id:=λk z e=>Nv.mpr ⟨some z,bG e,rfl⟩
  have hn':(Λ.filterMap id).Nodup/\(o=some x->x∉Λ.filterMap id):=by
   cases o with
   |none=>exact⟨hn,λz=>nn z.symm.symm⟩
   |some y=>
    have hn:=bB.mp hn
    exact⟨hn.2,λz=>am z▸hn.1⟩
  cases i with
  |zero=>
   have h:o=some x:=am h
   cases j with
   |zero=>rfl
   |succ j=>exact absurd (hm j x h')<|hn'.2 h
  |succ i=>
   cases j with
   |zero=>
    have h':o=some x:=am h'
    exact absurd (hm i x h)<|hn'.2 h'
   |succ j=>exact aE (λx=>x+1)<|ih hn'.1 i j x h h'
theorem Vu{fd:fe}{ps:aa b9}{Λ:aa (ag b9)}{b:aa d6}(hb:fd.body=.stmts b)(h:WG fd ps Λ=true):yL fd ps Λ b:=by
 refine aU λG9 k9=>?_
 refine cK (aT h) λh1 h=>?_
 refine cK (aT h) λh2 h=>?_
 refine cK (aT h) λh3 h=>?_
 refine cK (aT h) λh4 h=>?_
 refine cK (aT h) λh5 h=>?_
 refine cK (aT h) λh6 h=>?_
 refine cK (aT h) λh7 h=>?_
 refine cK (aT h) λh8 h=>?_
 refine cK (aT h) λh9 h=>?_
 refine cK (aT h) λMo h11=>?_
 refine k9 ?_
 have k:=I7 h9
 exact⟨hb,xx.mp h1,eq_of_beq h2,eV _|>.mp h3,eV _|>.mp h4,eq_of_beq h5,eq_of_beq h6,ah h7,λx m=>(aZ.mp<|aF.mp h8 x m).imp eq_of_beq eq_of_beq,k.2,Vt<|ah Mo,k.1,ah h11⟩
noncomputable def Se(K:uh)(a:az)(ps:aa b9)(Λ:aa (ag b9))(f:fe->aa d6->aM):Bool:=
 match D5 K a with
 |some fd=>WG fd ps Λ&&(codeIn K fd.code fd.qualname&&I4 fd (f fd))
 |none=>false
noncomputable def lx(K:uh)(a:az)(S:Setting)(vals:aa ak):ag (aa<|b9×ak):=(D5 K a).bind λfd=>peek K S<|bindArgs fd ⟨vals,[]⟩
inductive afD(c:Cx)(a:az)(ps:aa b9)(Λ:aa (ag b9))(f:fe->aa d6->aM):Prop
 |mk {fd o b} (h:D5 c.K a=some fd) (K:c.K.lookup a=some o) (hd:o.data=.func fd) (code:c.cV.CodeRec fd.code fd.qualname) (D:yL fd ps Λ b) (fit:f fd b=true)
theorem uY{c}{a}{ps Λ f}(hb:c.K.In c.cV)(h:Se c.K a ps Λ f=true):afD c a ps Λ f:=by
 unfold Se at h
 cases e:D5 c.K a with
 |none=>rw[e]at h;exact ff h
 |some fd=>
  rw[e]at h
  refine cK (aT h) λh1 h=>?_
  refine cK (aT h) λh2 h=>?_
  refine bN (I5 h) λb h9=>cK h9 λh3 h=>?_
  refine bN (Nj e) λo h9=>cK h9 λho hd=>?_
  exact⟨e,ho,hd,codeRec_of hb h2,Vu h3 h1,h⟩
theorem jI{K}{a}{fd}{vals}{bs}(h:D5 K a=some fd)(p: ∀S,lx K a S vals=some bs){s}(X:K.In s.heap):qW s fd ⟨vals,[]⟩ bs:=kp_binds X λS=>by
 have:=p S
 unfold lx at this
 rw[h]at this
 exact this
noncomputable def I8(K:uh)(f:av)(I:bx)(g:aM)(h:fe->aM):Bool:=Se K (sI f) I.ps I.Λ λfd b=>h fd&&(ou sg I.body ⟨I.fg,fd.scope.names,I.Λ,g⟩ b)
noncomputable def YK(K:uh):Bool:=wR.all λp=>p.1==70||I8 K p.1 p.2 false λU=>true
noncomputable abbrev Sf(v:av->ak)(n:av):aa Value:=(bp n).map v
def D6(K:uh):Prop:= ∀S v,(wR.map λp=>lx K (sI p.1) S<|Sf v p.2.ps.length)=wR.map λp=>some<|p.2.ps.zip<|Sf v p.2.ps.length
theorem Sh(h:vals.length=n):Sf (λi=>vals[i]?.getD .none) n=vals:=NX λi=>by
 subst h
 by_cases h:i<vals.length
 ·rw[bl]
  refine aK (List.getElem?_range h)<|aK (aC h) ?_
  exact aE (λo=>some<|GH o ak.none)<|aC h
 ·rw[G7<|q7.mp h,G7 (by rw[aw,dR];exact q7.mp h)]
theorem Vv{K}{f}{I}(hB:D6 K)(hm:(f,I)∈wR){vals}(hl:vals.length=I.ps.length)(S:Setting):lx K (sI f) S vals=some (I.ps.zip vals):=by
 have:=NV.mp (hB S λi=>vals[i]?.getD .none) (f,I) hm
 rw[Sh hl]at this
 exact this
theorem GC{β:Type}{k:av}{v:β}{l:aa (av×β)}(h:l.lookup k=some v):(k,v)∈l:=by
 induction l with
 |nil=>exact nn h
 |cons p r ih=>
  obtain⟨a,b⟩:=p
  rw[cB]at h
  cases q:k==a with
  |true=>rw[q]at h;cases am h;cases eq_of_beq q;exact .head _
  |false=>rw[q]at h;exact .tail _<|ih h
theorem Si(hf:c.ue f=sI f)(hb:c.K.In c.cV)(hB:D6 c.K)(hm:(f,I)∈wR)(hc:I8 c.K f I g h=true)(code: ∀fd,h fd=true->g=true->fd.code=.ref c.code/\(fd.qualname++".<locals>.")++"<lambda>"=c.nP):QM c f I g:=by
 obtain⟨e,K,hd,hcd,D,h2⟩:=uY hb hc
 obtain⟨h3,h2⟩:=aT h2
 exact⟨⟨D,⟨_,hf▸K,hd⟩,hcd,λs vals X hl=>jI e (Vv hB hm hl) X⟩,h2,code _ h3⟩
noncomputable abbrev K3:Program:=WL.row.prog
noncomputable def lH(K:uh)(w:GX)(s₁:af)(mg mb:b9->ag ak)(row:ag az):Cx where
 prog:=K3
 w:=w
 K:=K
 cV:=NQ s₁.heap [(871,869)]
 wE:=869
 code:=871
 s0:=s₁
 mg:=mg
 mb:=mb
 cls:=w4
 ue:=sI
 iG:=sg.iG
 fY:=t4
 Cw:=71
 nP:="law"++".<locals>."++"<lambda>"
 row:=row
noncomputable def YL(K:uh)(a:az):Bool:=typeIn K (.ref a)==some (.type "function")
noncomputable def acb(K:uh)(k:av):Bool:=Oy K (w4 k)&&(Hl K (w4 k)&&((k==0||kin_not K (w4 k) (w4 0))&&((ji K (.ref (w4 k)) "__init__"==some (some (.ref (sI (1000+k)))))&&(YL K (sI (1000+k))&&((nsIn K cf (t4 k)==some (some (.ref (w4 k))))&&vh K (.ref (w4 k)))))))
noncomputable def okB(K:uh):Bool:=
 ((bp 3).all (acb K))&&((CE.all λn=>nsIn K cf n==some none)&&(((bp 71).all λi=>nsIn K cf (sg.iG i)==some (some (.ref (sI i)))&&vh K (.ref (sI i)))&&
 ((ji K (.ref 113) (br (aO 5))==some (some (.ref (sI 2000))))&&(YL K (sI 2000)&&vh K (.ref (sI 2000))))))
noncomputable def xB(K:uh):Bool:=
 (nsIn K cf (t4 9)==some (some (.ref 44)))&&(vh K (.ref 44)&&((ji K (.ref 44) "__setattr__"==some (some (.builtin "object.__setattr__")))&&((YU K 44 (br iC)==some none)&&
 ((ji K (.ref 44) "__getattribute__"==some (some (.builtin "BaseException.__getattribute__")))&&((ji K (.ref 44) "__getattr__"==some none)&&((ji K (.ref 44) (br iC)==some none)&&
 ((ji K (.ref 44) "__init__"==some (some (.ref (sI 9000))))&&YL K (sI 9000))))))))
noncomputable def onL{α:Type}(l:aa α)(f:α->aa α->aM):Bool:=
 match l with
 |[]=>false
 |a::r=>f a r
theorem D7{α:Type}{m:aa α->Prop}{l}{f}(h:onL l f=true)(k: ∀a r,f a r=true->m (a::r)):m l:=by
 cases l with
 |nil=>exact ff h
 |cons a r=>exact k a r h
noncomputable def Ca(l:aa av)(e:aX):Bool:=jm e λy U=>y==br l
theorem pP{m:aX->Prop}(h:Ca l e=true)(k: ∀p,m<|.Name (br l) p):m e:=fh h λy p h=>by rw[eq_of_beq h];exact k p
noncomputable def D8(f:aa av)(t:aX->aM)(st:d6):Bool:=yZ st λts w U=>JZ ts λq=>jP q λo x U=>x==br f&&(Ca gd o&&t w)
theorem lI{m:d6->Prop}{f t st}(h:D8 f t st=true)(k: ∀p1 p2 p3 w,t w=true->m (.Assign [.Attribute (.Name (br gd) p1) (br f) p2] w p3)):m st:=
 uJ h λts w p3 h=>i4 (m:=λts=>m<|.Assign ts w p3) h λq h=>ij (m:=λq=>m<|.Assign [q] w p3) h λo x p2 h=>by
  refine cK (aT h) λh1 h=>?_
  refine cK (aT h) λh2 h3=>?_
  refine aK (eq_of_beq h1) ?_
  exact pP (m:=λo=>m<|.Assign [.Attribute o (br f) p2] w p3) h2 λp1=>k p1 p2 p3 w h3
noncomputable def Sj(l:aa d6):Bool:=onL l λa l=>D8 (aO 0) (Ca<|aO 0) a&&onL l λb l=>D8 (aO 1) (Ca<|aO 1) b&&onL l λc l=>D8 (aO 2) (Ca<|aO 2) c&&NG l λd e=>D8 (aO 3) (NH<|.bool false) d&&D8 (aO 4) (NH<|.bool false) e
noncomputable def I9(s:aa av)(l:aa d6):Bool:=NG l λa b=>D8 (aO 0) (NH<|.str<|br s) a&&D8 (aO 2) (NH .none) b
theorem Ja{m:aa d6->Prop}{l}(h:Sj l=true)(k: ∀p0 p1 p2 p3 p4 q0 q1 q2 q3 q4 k3 k4,m<|JX p0 p1 p2 p3 p4 q0 q1 q2 q3 q4 k3 k4):m l:=
 D7 h λa l h=>lI (m:=λa=>m<|a::l) (aT h).1 λa1 a2 a3 w hw=>pP (m:=λw=>m<|.Assign [.Attribute (.Name (br gd) a1) (br<|aO 0) a2] w a3::l) hw λq0=>
 D7 (m:=λl=>m<|gV 0 (a1,a2,a3) (.Name (br<|aO 0) q0)::l) (aT h).2 λb l h=>lI (m:=λb=>m<|gV 0 (a1,a2,a3) (.Name (br<|aO 0) q0)::b::l) (aT h).1 λb1 b2 b3 w hw=>pP (m:=λw=>m<|gV 0 (a1,a2,a3) (.Name (br<|aO 0) q0)::gV 1 (b1,b2,b3) w::l) hw λq1=>
 D7 (m:=λl=>m<|gV 0 (a1,a2,a3) (.Name (br<|aO 0) q0)::gV 1 (b1,b2,b3) (.Name (br<|aO 1) q1)::l) (aT h).2 λc l h=>lI (m:=λc=>m<|gV 0 (a1,a2,a3) (.Name (br<|aO 0) q0)::gV 1 (b1,b2,b3) (.Name (br<|aO 1) q1)::c::l) (aT h).1 λc1 c2 c3 w hw=>pP (m:=λw=>m<|gV 0 (a1,a2,a3) (.Name (br<|aO 0) q0)::gV 1 (b1,b2,b3) (.Name (br<|aO 1) q1)::gV 2 (c1,c2,c3) w::l) hw λq2=>
 mv (m:=λl=>m<|gV 0 (a1,a2,a3) (.Name (br<|aO 0) q0)::gV 1 (b1,b2,b3) (.Name (br<|aO 1) q1)::gV 2 (c1,c2,c3) (.Name (br<|aO 2) q2)::l) (aT h).2 λd e h=>
 lI (m:=λd=>m [gV 0 (a1,a2,a3)<|.Name (br<|aO 0) q0,gV 1 (b1,b2,b3)<|.Name (br<|aO 1) q1,gV 2 (c1,c2,c3)<|.Name (br<|aO 2) q2,d,e]) (aT h).1 λd1 d2 d3 w hw=>lk (m:=λw=>m [gV 0 (a1,a2,a3)<|.Name (br<|aO 0) q0,gV 1 (b1,b2,b3)<|.Name (br<|aO 1) q1,gV 2 (c1,c2,c3)<|.Name (br<|aO 2) q2,gV 3 (d1,d2,d3) w,e]) hw λk3 q3=>
 lI (m:=λe=>m [gV 0 (a1,a2,a3)<|.Name (br<|aO 0) q0,gV 1 (b1,b2,b3)<|.Name (br<|aO 1) q1,gV 2 (c1,c2,c3)<|.Name (br<|aO 2) q2,gV 3 (d1,d2,d3)<|.Constant (.bool false) k3 q3,e]) (aT h).2 λe1 e2 e3 w hw=>lk (m:=λw=>m [gV 0 (a1,a2,a3)<|.Name (br<|aO 0) q0,gV 1 (b1,b2,b3)<|.Name (br<|aO 1) q1,gV 2 (c1,c2,c3)<|.Name (br<|aO 2) q2,gV 3 (d1,d2,d3)<|.Constant (.bool false) k3 q3,gV 4 (e1,e2,e3) w]) hw λk4 q4=>
 k _ _ _ _ _ _ _ _ _ _ _ _
theorem z9{m:aa d6->Prop}(h:I9 s l=true)(k: ∀p0 p1 q0 q1 k0 k1,m<|JY s p0 p1 q0 q1 k0 k1):m l:=
 mv h λa b h=>lI (m:=λa=>m [a,b]) (aT h).1 λa1 a2 a3 w hw=>lk (m:=λw=>m [gV 0 (a1,a2,a3) w,b]) hw λk0 q0=>
 lI (m:=λb=>m [gV 0 (a1,a2,a3)<|.Constant (.str<|br s) k0 q0,b]) (aT h).2 λb1 b2 b3 w hw=>lk (m:=λw=>m [gV 0 (a1,a2,a3)<|.Constant (.str<|br s) k0 q0,gV 2 (b1,b2,b3) w]) hw λk1 q1=>k _ _ _ _ _ _
noncomputable def YM(fd:fe)(ps:aa b9):Bool:=ps.all λn=>fd.scope.names.lookup n==some .local
noncomputable def Sk(K:uh)(a:az)(ps:aa b9)(f:aa d6->aM):Bool:=Se K a ps (ps.map some) λfd b=>YM fd ps&&f b
noncomputable abbrev Sm:aa Stmt:=[.Try [.Return (some<|.Call (.Name (br AH) ⟨935,15,935,18⟩) [] [] ⟨935,15,935,20⟩) ⟨935,8,935,20⟩] [.ExceptHandler (some<|.Name (t4 9) ⟨936,11,936,18⟩) (some<|br HX) [.Return (some<|.Attribute (.Name (br HX) ⟨937,15,937,20⟩) (br iC) ⟨937,15,937,28⟩) ⟨937,8,937,28⟩] ⟨936,4,937,28⟩] [] [] ⟨934,4,937,28⟩]
structure Aa(K:uh):Prop where
 ok:okB K=true
 Tw:YK K=true
 mh:D6 K
 Zg:I8 K 70 iA true (λfd=>fd.code==.ref 871&&fd.qualname==("law":b9))=true
 x:xB K=true
 afE:K.lookup 44=some (Mb 44)
 tail:tailIn K [.type "Exception",.type "BaseException",.type "object"] Ma=true
 afF:noTabs K=true
 afG:Sk K 41 [br gd,br iC] (λb=>JZ b<|D8 iC<|Ca iC)=true
 afH:Sk K 103 Eo Sj=true
 afI:Sk K 60 [br gd] (I9 dQ)=true
 afJ:Sk K 81 [br gd] (I9 sk)=true
 XX:Se K 845 [br AH] SO (λfd U=>YM fd [br AH,br HX]&&fd.scope.names.lookup (t4 9)==some .globalImplicit)=true
 acd:(D5 K 845).map FuncData.body=some (.stmts Sm)
 ace: ∀S v0 v1 v2 v3,[lx K 41 S [v0,v1],lx K 103 S [v0,v1,v2,v3],lx K 103 S [v0,v1,v2],lx K 60 S [v0],lx K 81 S [v0],lx K 845 S [v0]]=[some<|[br gd,br iC].zip [v0,v1],some<|Eo.zip [v0,v1,v2,v3],some<|Eo.zip [v0,v1,v2,.none],some<|[br gd].zip [v0],some<|[br gd].zip [v0],some<|[br AH].zip [v0]]
theorem Sn{h:cy}{p:pg}{loose:aa b9}{mean:Y0->ag ak}{mg mb:b9->ag ak}{P:az}(T:Top p loose mean mg mb h)(hP:h.get? P=none):h.BuiltinsAt mg P:=by
 refine aU λG9 k9=>?_
 refine jK T.bmain λbm ob h9=>an6 h9 λh1 h2 h3 h4 h5 h6=>?_
 refine k9 ?_
 refine⟨bm,ob,h1,h2,λq=>?_,λq=>?_,h3,h4,h5,h6⟩
 ·refine A9 T.g λo es ep h9=>n7 h9 λe hd U=>?_
  rw[q,e]at h3;cases h3
  rw[hd]at h6;cases h6
 ·rw[q,hP]at h3;cases h3
theorem D9{fd:fe}{ps:aa b9}(h:YM fd ps=true): ∀n∈ps,fd.scope.names.lookup n=some .local:=λn m=>eq_of_beq<|aF.mp h n m
section
variable{K:uh}{w:GX}{s₁:af}{mg mb:b9->ag ak}{p:pg}{loose:aa b9}{mean:Y0->ag ak}{row:ag az}
theorem YN(B:Aa K)(hT:TabsAt [(871,869)] s₁.heap)(X:K.In s₁.heap)(T:Top p loose mean mg mb s₁.heap):(lH K w s₁ mg mb row).Ok:=by
 have GT:=ghost_top hT T
 refine aU λG9 k9=>?_
 refine cK (aT B.ok) λc h=>?_
 refine cK (aT h) λbn h=>?_
 refine cK (aT h) λfn h=>?_
 refine cK (aT h) λcp1 h=>?_
 refine cK (aT h) λcp2 cp3=>?_
 refine k9 ?_
 have cl: ∀k,k<=2->acb K k=true:=λk hk=>aF.mp c k<|bE.mpr<|Sr hk
 have c2:=λk hk=>(aT<|cl k hk).2
 have c3:=λk hk=>(aT<|c2 k hk).2
 have c4:=λk hk=>(aT<|c3 k hk).2
 have c5:=λk hk=>(aT<|c4 k hk).2
 have c6:=λk hk=>(aT<|c5 k hk).2
 exact{
  K:=ghost_K hT X B.afF
  g:=GT.g
  b:=GT.b
  nolimit:=GT.nolimit
  nodigits:=GT.nodigits
  builtins:=GT.builtins
  cls:=λk hk=>(aT<|cl k hk).1
  ZO:=λk hk=>(aT<|c2 k hk).1
  Em:=λk h1 hk=>(aZ.mp (aT<|c3 k hk).1).elim (λz=>absurd (eq_of_beq z)<|q9 h1) id
  ZP:=by
   refine aU λG9 k9=>?_
   refine bN GT.nolimit λmc h9=>cK h9 λZM U=>?_
   obtain⟨o,es,ep,q,_⟩:=ZM
   refine k9 ?_
   exact⟨cStatics,o,by decide,q⟩
  bns:=λn hn=>eq_of_beq<|aF.mp bn n hn
  Tw:=λi hi=>((aT<|aF.mp fn i<|bE.mpr hi).imp eq_of_beq id)
  VN:=λk hk=>⟨eq_of_beq (aT<|c4 k hk).1,eq_of_beq (aT<|c5 k hk).1⟩
  ZQ:=⟨eq_of_beq cp1,eq_of_beq cp2,cp3⟩
  cns:=λk hk=>(aT (c6 k hk)).imp eq_of_beq id}
theorem acf(B:Aa K)(XB:K.In (NQ s₁.heap [(871,869)])):vU (lH K w s₁ mg mb row):=by
 refine aU λG9 k9=>?_
 refine cK (aT B.x) λa1 h=>?_
 refine cK (aT h) λa2 h=>?_
 refine cK (aT h) λa3 h=>?_
 refine cK (aT h) λa4 h=>?_
 refine cK (aT h) λa5 h=>?_
 refine cK (aT h) λa6 h=>?_
 refine cK (aT h) λa7 h=>?_
 refine cK (aT h) λa8 a9=>?_
 refine k9 ?_
 exact⟨B.afE,tail_of_in XB B.tail,eq_of_beq a1,a2,eq_of_beq a3,eq_of_beq a4,eq_of_beq a5,eq_of_beq a6,eq_of_beq a7,eq_of_beq a8,eq_of_beq a9⟩
theorem wt{α:Type}{l l':aa α}(h:l=l'){i:av}{a b:α}(ha:l[i]?=some a)(hb:l'[i]?=some b):a=b:=am<|ha.symm.trans<|(aE (λx=>x[i]?) h).trans hb
theorem K4{vals:aa ak}(h:vals.length=1):vals=[vals[0]?.getD .none]:=by
 cases vals with
 |nil=>cases h
 |cons v r=>
  cases r with
  |nil=>rfl
  |cons=>cases h
theorem Vw{vals:aa ak}(h:vals.length=2):vals=[vals[0]?.getD .none,vals[1]?.getD .none]:=by
 cases vals with
 |nil=>cases h
 |cons v r=>
  refine aK (K4 (vals:=r)<|dc h) ?_
  rfl
theorem So(B:Aa K)(hT:TabsAt [(871,869)] s₁.heap)(X:K.In s₁.heap)(T:Top p loose mean mg mb s₁.heap):PC (lH K w s₁ mg mb row):=by
 have O:=YN (w:=w) (row:=row) B hT X T
 have XB:K.In (NQ s₁.heap [(871,869)]):=O.K
 have hh:(NQ s₁.heap [(871,869)]).get? 869=none:=hideAll_none _<|.head _
 have hX:=λS v0 v1 v2 v3=>B.ace S v0 v1 v2 v3
 refine⟨O,acf B XB,?_,⟨(ghost_code hT).1,Sn (ghost_top hT T) hh,show cf≠869 by decide,hh⟩,?_,rfl,rfl,rfl,λf I hn h=>?_,?_,λk hk=>?_⟩
 ·obtain⟨e,hK,hd,hcd,D,h⟩:=uY (c:=lH K w s₁ mg mb row) XB B.afG
  obtain⟨h1,h2⟩:=aT h
  have l:=D9 h1
  revert D
  refine i4 (m:=λb=>yL _ _ _ b->yM (lH K w s₁ mg mb row)) h2 λst h=>lI (m:=λst=>yL _ _ _ [st]->yM (lH K w s₁ mg mb row)) h λp1 p2 p3 wx h=>pP (m:=λwx=>yL _ _ _ [.Assign [.Attribute (.Name (br gd) p1) (br iC) p2] wx p3]->yM (lH K w s₁ mg mb row)) h λp4 D=>?_
  exact⟨hK,hd,hcd,D,l _ (.head _),l _ (.tail _ (.head _)),λs vals Xs hl=>by
   refine aK (Vw hl) ?_
   exact jI e (λS=>wt (i:=0) (hX S _ _ .none .none) rfl rfl) Xs⟩
 ·obtain⟨e,hK,hd,hcd,D,h⟩:=uY (c:=lH K w s₁ mg mb row) XB B.XX
  obtain⟨h1,h2⟩:=aT h
  have l:=D9 h1
  have hb:=B.acd
  rw[show D5 K 845=some _ from e]at hb
  have hb:=D.body.symm.trans<|am hb
  cases hb
  exact⟨show 10<71 by decide,hK,hd,hcd,D,l _ (.head _),l _ (.tail _ (.head _)),eq_of_beq h2,show(t4 9==("__debug__":b9))=false by decide+kernel,λs vals Xs hl=>by
   refine aK (K4 hl) ?_
   exact jI e (λS=>wt (i:=5) (hX S _ .none .none .none) rfl rfl) Xs⟩
 ·have hm:=GC h
  have:=aF.mp B.Tw (f,I) hm
  exact Si rfl XB B.mh hm ((aZ.mp this).elim (λz=>absurd (eq_of_beq z) hn) id) λfd U z=>ff z
 ·refine Si rfl XB B.mh (GC (k:=70) (l:=wR) rfl) B.Zg λfd h U=>?_
  obtain⟨h1,h2⟩:=aT h
  exact⟨eq_of_beq h1,by rw[eq_of_beq h2];rfl⟩
 ·have ini: ∀{j:av} {ps f},Sk K (sI<|1000+j) ps f=true-> ∃fd b,D5 K (sI<|1000+j)=some fd/\f b=true/\oV (lH K w s₁ mg mb row) j fd ps b:=λ{j ps f} h=>by
   refine aU λG9 k9=>?_
   obtain⟨e,hK,hd,hcd,D,h⟩:=uY (c:=lH K w s₁ mg mb row) XB h
   obtain⟨h1,h2⟩:=aT h
   refine k9 ?_
   exact⟨_,_,e,h2,D,⟨_,hK,hd⟩,hcd,D9 h1⟩
  have hk:k=0\/k=1\/k=2:=by lia
  rcases hk with rfl|rfl|rfl
  ·obtain⟨fd,b,e,h2,I⟩:=ini (j:=0) B.afH
   refine P1 O<|Ja (m:=λb=>oV _ 0 fd Eo b->Wj (lH K w s₁ mg mb row)) h2 (λU U U U U U U U U U U U I=>⟨I,λs v0 v1 v2 v3 Xs=>jI e (λS=>wt (i:=1) (hX S v0 v1 v2 v3) rfl rfl) Xs,λs v0 v1 v2 Xs=>jI e (λS=>wt (i:=2) (hX S v0 v1 v2 .none) rfl rfl) Xs⟩) I
  ·obtain⟨fd,b,e,h2,I⟩:=ini (j:=1) B.afI
   exact P4 O<|z9 (m:=λb=>oV _ 1 fd [br gd] b->Fh (lH K w s₁ mg mb row) 1 _) h2 (λU U U U U U I=>⟨I,λs v0 Xs=>jI e (λS=>wt (i:=3) (hX S v0 .none .none .none) rfl rfl) Xs⟩) I
  ·obtain⟨fd,b,e,h2,I⟩:=ini (j:=2) B.afJ
   exact P5 O<|z9 (m:=λb=>oV _ 2 fd [br gd] b->Fh (lH K w s₁ mg mb row) 2 _) h2 (λU U U U U U I=>⟨I,λs v0 Xs=>jI e (λS=>wt (i:=4) (hX S v0 .none .none .none) rfl rfl) Xs⟩) I
end
theorem Jb{P}{h}{a}{d}{vs}(W:Well P h (.ref a) d)(hl:h.IsList a vs.toArray): ∃n,h.get? a=some (eZ vs n):=by
 refine aU λG9 k9=>?_
 obtain⟨o,eo,hc,n,hd⟩:=hl
 refine k9 ?_
 have K: ∀{o':Obj},h.get? a=some o'->o'.data=.seq vs.toArray n/\o'.cls=.type "list":=λe=>am (eo.symm.trans e)▸⟨hd,hc⟩
 cases W with
 |@list _ us xs e _=>
  have q:us.toArray=vs.toArray:=by injection (K e).1
  exact⟨_,q▸e⟩
 |tuple e _=>exact absurd (show Value.type "tuple"=.type "list" from(K e).2) (by decide)
 |bytearray e=>exact nomatch (K e).1
 |dict e _=>exact nomatch (K e).1
 |set e _ _ _=>exact nomatch (K e).1
 |frozenset e _ _ _=>exact nomatch (K e).1
 |obj e _ _ _=>exact nomatch (K e).1
theorem YO{K}{h}{G:Prop}(X:K.In h)(B:Aa K)(k:Aa K->G):G:=k B
theorem afK{K}(B:Aa K):nsIn K cf "law"=some (some<|.ref 872):=by
 exact eq_of_beq (aT<|aF.mp (aT (aT (aT B.ok).2).2).1 70<|bE.mpr (by decide)).1
section
variable{K:uh}{w:GX}{s₁:af}{mg mb:b9->ag ak}{p:pg}{loose:aa b9}{mean:Y0->ag ak}
theorem acg(B:Aa K)(hT:TabsAt [(871,869)] s₁.heap)(X:K.In s₁.heap)(T:Top p loose mean mg mb s₁.heap)(hg:s₁.gens= #[])(hw:WellAll w.params s₁.heap [.ref sc] args)(hl:s₁.heap.IsList sc vs.toArray)(hi:IntsAre vs zs)(hz:zs.length<=63)
  {cw:ClaimW} {cl:b9->ag az} {mn:Y0->ag ak} (hc1: ∀cls,cw.raises args cls=false) (hc2:cw.post args (.bool true) args=true):
  cW (model K3 w) YT (.call (.ref 872) ⟨[.ref sc],[]⟩) (λr s'=>GoodW cw cl mn args {s₁ with heap:=NQ s₁.heap [(871,869)]} r s'/\GrownAll [(871,869)] s'.heap) s₁:=by
 have ht:=(hT _<|.head _).2
 have hn: ∃n,s₁.heap.get? sc=some (eZ vs n):=by
  cases hw with
  |cons w1 _=>exact Jb w1 hl
 obtain⟨n,ho⟩:=hn
 have hs:e8 (lH K w s₁ mg mb none) (λb=>b=869) s₁.heap vs (zs.map .a):=by
  clear hl ho hz
  induction hi with
  |nil=>exact .nil
  |cons n t _ ih=>exact .cons (.int n t) ih
 have hvl:vs.length<=9999:=by
  have:=hs.cn
  rw[aw]at this
  lia
 have D:dm (lH K w s₁ mg mb none) (λb=>b=869) s₁.heap (.ref sc) (gf zs):=.list ho (λz=>by
  subst z
  cases ho.symm.trans ht) hvl hs.cn hs.cx
 have W:Wd (lH K w s₁ mg mb none) [] s₁:=⟨⟨s₁.heap,s₁.toks,rfl⟩,λb o e=>of_hideAll _ e,λa e=>nn e,#[],ht,trivial,λpos cv e=>nn e⟩
 let F:Fx:=⟨lH K w s₁ mg mb none,YT,iA.fg+1,[],default,[]⟩
 refine lQ (Vs (So B hT X T) (λa=>So (row:=some a) B hT X T) (F:=F) (bK _) (⟨W,⟨rfl,trivial,λb hb=>(nomatch hb),(by decide:YT.depth+4*(iA.fg+1)<=900),(by decide:YT.units+40*(iA.fg+1)<=9000),rfl⟩,λb x=>x.elim (λe=>nn e) id,λb hb=>⟨_,hb▸ht⟩⟩:Cl F (λb=>b=869) [] s₁) D) λr s' q=>?_
 obtain⟨rfl,a,r',W'⟩:=q
 obtain⟨hh,tk,es⟩:=W'.same
 refine⟨⟨.inl ⟨_,_,[],rfl,hc1,.bool true,hc2,λU=>⟨.nil,λa ha=>(nomatch ha)⟩⟩,λb o e=>W'.cV b o e,?_,?_⟩,?_,trivial⟩
 ·rw[es];rfl
 ·rw[es];exact hg
 ·obtain⟨ps,e,_⟩:=W'.wE
  exact⟨ps,e⟩
end
end Mine.Lake
namespace Mine.hd
noncomputable def z:=0
noncomputable section
def tw10012880186880212623:=z
def tw10024716035694756283:=z
def tw10030107230732127627:=z
def tw1005483496087919985:=z
def tw10090067676359358454:=z
def tw10111801491309104144:=z
def tw1011335219593555734:=z
def tw1013155817946168525:=z
def tw10203026625882799534:=z
def tw10216474801634566288:=z
def tw10246146449241189800:=z
def tw10258999931320997221:=z
def tw10264135568141901301:=z
def tw10292235466723388172:=z
def tw1033889070964956483:=z
def tw10403243965636340961:=z
def tw10424393626065333798:=z
def tw1043307727769730188:=z
def tw10458740792067480800:=z
def tw10491609206876299696:=z
def tw10507497572311344420:=z
def tw1051681510052472703:=z
def tw10525666975642140466:=z
def tw10543509907540572799:=z
def tw10583446816852156582:=z
def tw10601615944963115059:=z
def tw10603584201595350602:=z
def tw10614716105012338702:=z
def tw10727248033764811480:=z
def tw10738003575532504788:=z
def tw10743916045514856203:=z
def tw10752148897807903841:=z
def tw10781468475247234061:=z
def tw10784824025267889561:=z
def tw10788059911547816233:=z
def tw10792051664901133789:=z
def tw10806950440038215891:=z
def tw10844753989422098599:=z
def tw10847404155465417027:=z
def tw10860895700388868024:=z
def tw10879034167726328663:=z
def tw1088296927520436173:=z
def tw10905682514733158466:=z
def tw10919297434634762262:=z
def tw10949625832625181284:=z
def tw11011131195910976488:=z
def tw11032806212648032379:=z
def tw11034497122203965937:=z
def tw11054480109507316185:=z
def tw11079593142295127227:=z
def tw11117797201346649052:=z
def tw11128854368766332075:=z
def tw11136197038861592535:=z
def tw11151547217846952531:=z
def tw11162318198679636149:=z
def tw11210553801493137410:=z
def tw11213053971927718326:=z
def tw11232374478483605306:=z
def tw11249132867342737325:=z
def tw11251137523995926341:=z
def tw11256106856564762260:=z
def tw11283319371284918911:=z
def tw1129884963351977449:=z
def tw11319097763535126812:=z
def tw11319892378374348655:=z
def tw11364443708160879001:=z
def tw11375277706881905925:=z
def tw11389486352061984695:=z
def tw11399449904127653305:=z
def tw11465210709893060100:=z
def tw1147470481896660410:=z
def tw11507959949525687343:=z
def tw11513968764499736323:=z
def tw11551083187376567056:=z
def tw11587034568685482758:=z
def tw11623594800819314181:=z
def tw11631869004601391166:=z
def tw11631947586910100387:=z
def tw11652457597714270106:=z
def tw11660266114150955751:=z
def tw11663481321943121269:=z
def tw11713075325732132258:=z
def tw11754176132448286083:=z
def tw11801993109049149486:=z
def tw11814627755841444246:=z
def tw11893437276241958245:=z
def tw11905163887095721015:=z
def tw11912922877643110818:=z
def tw11915594877312485397:=z
def tw11917015161858427179:=z
def tw11953376511379268794:=z
def tw11968265576560266318:=z
def tw12050417470231563642:=z
def tw12058812876911547015:=z
def tw12070051907170230399:=z
def tw12070654863422294720:=z
def tw1208734638264122097:=z
def tw12092154237167983948:=z
def tw12113243949977362033:=z
def tw12127338746724423809:=z
def tw12131494931117144662:=z
def tw12173100003817136821:=z
def tw12239354291974867115:=z
def tw12268275109542032366:=z
def tw12319353311459017080:=z
def tw12337632362937886050:=z
def tw12350410155528471161:=z
def tw12364972598781006883:=z
def tw12394076208661396346:=z
def tw12399718760709695909:=z
def tw1241404454085649124:=z
def tw12459740579856956213:=z
def tw12509009523430927325:=z
def tw12521463284412890351:=z
def tw12575139184659369484:=z
def tw12588582704262371052:=z
def tw12590977762386282803:=z
def tw12611767792052310623:=z
def tw12614811148066621264:=z
def tw12647368939536790636:=z
def tw12659318050587179527:=z
def tw12685813987229840507:=z
def tw12744807935193187038:=z
def tw12832683148521936107:=z
def tw128412058910260475:=z
def tw12861998865439983172:=z
def tw12936449754285732098:=z
def tw12940713784782232206:=z
def tw12949589719889679912:=z
def tw12952509933414984302:=z
def tw1299046323782801668:=z
def tw12994019391074448376:=z
def tw13038990169509382042:=z
def tw13092906067662860646:=z
def tw13132618709999183898:=z
def tw13160604113216922460:=z
def tw13181700845877081190:=z
def tw13198842818209783178:=z
def tw13217225542625558698:=z
def tw13220430256171166289:=z
def tw13225837485096350037:=z
def tw13267510147771200024:=z
def tw13277076834127875243:=z
def tw13280443560766958183:=z
def tw13285133528070534704:=z
def tw13293453174229064190:=z
def tw1331086792558400476:=z
def tw13315533130655954831:=z
def tw13321331477185743149:=z
def tw13322179722446271537:=z
def tw13330244855972007585:=z
def tw13365295217650922812:=z
def tw13368278939475635651:=z
def tw13372043803930879067:=z
def tw13409441903868389331:=z
def tw13431754692932380062:=z
def tw13466754112058979494:=z
def tw13474097485772985973:=z
def tw13518370688599389936:=z
def tw13532847315355080253:=z
def tw1359830224848277088:=z
def tw13609717118414637909:=z
def tw13770079208771991547:=z
def tw13783031573616600631:=z
def tw13790719812936386609:=z
def tw1379335367625716243:=z
def tw13828106393651249627:=z
def tw1382963296337349011:=z
def tw13855946660403688772:=z
def tw13893168526513508166:=z
def tw13903934854276604550:=z
def tw13919464512627920130:=z
def tw13931416462566266981:=z
def tw13955727244428466083:=z
def tw13994979335412520660:=z
def tw14006173549557618073:=z
def tw14040608126747316905:=z
def tw14060154772996877548:=z
def tw1409312971732116557:=z
def tw14120982254508448379:=z
def tw1413172679324656950:=z
def tw14137390275340422267:=z
def tw14176624398918483544:=z
def tw1425423193147277237:=z
def tw1429355676904276588:=z
def tw14294001040229213422:=z
def tw14352634086879598012:=z
def tw14353793391729792155:=z
def tw14359794571027992587:=z
def tw1439246655266547700:=z
def tw14438451200097066615:=z
def tw14439243815434019604:=z
def tw14457593812595234344:=z
def tw14462709497994964445:=z
def tw14478148883734587675:=z
def tw14492701947808656938:=z
def tw1452849714261714991:=z
def tw14553816603554493358:=z
def tw14560493823538711346:=z
def tw14598272352848978880:=z
def tw14612060388864693735:=z
def tw14620637471214046174:=z
def tw14667805832236412624:=z
def tw14683707025165767436:=z
def tw14685462170515437407:=z
def tw14705683404202351889:=z
def tw14745743045033390146:=z
def tw14768889098011018680:=z
def tw14772383043592177042:=z
def tw14852329139284432860:=z
def tw14859038896228082724:=z
def tw14892549342360969540:=z
def tw14896477498954680388:=z
def tw14906377314874228009:=z
def tw14955159897011116063:=z
def tw14960593345356199642:=z
def tw14980023328507725902:=z
def tw14984183105004643987:=z
def tw14991384322417631237:=z
def tw15042006015671813226:=z
def tw1506431575118746342:=z
def tw15083628210047938546:=z
def tw15089522573102190283:=z
def tw15152743547302097792:=z
def tw15166520500009309586:=z
def tw15196483476954247563:=z
def tw15199589371867527261:=z
def tw15207398651663016943:=z
def tw15213948185873263833:=z
def tw15220180469806662145:=z
def tw15279998641719260112:=z
def tw15344866539931968096:=z
def tw1535757262459896012:=z
def tw15367242080415987702:=z
def tw15368132723985388332:=z
def tw15411387601460861337:=z
def tw15416985209724490359:=z
def tw15427206886491885616:=z
def tw15463257786427224491:=z
def tw15508949281206285077:=z
def tw15529170255622000948:=z
def tw15578025631644234493:=z
def tw15595854959937240912:=z
def tw15615420239508185596:=z
def tw1563692795949630186:=z
def tw15637593595834871717:=z
def tw15642763164714097627:=z
def tw15643275761693703936:=z
def tw15673258824015622330:=z
def tw15675198926951892251:=z
def tw15683763237869141255:=z
def tw15687388767607454252:=z
def tw15759970867653108152:=z
def tw15770740941851376516:=z
def tw15790720579355451973:=z
def tw1580110805410547442:=z
def tw15813434630575017362:=z
def tw15833661619300960221:=z
def tw15837987909243819085:=z
def tw15852365999677673905:=z
def tw1588505670450824345:=z
def tw1589133516308662214:=z
def tw15910714762333108613:=z
def tw15924899543223041283:=z
def tw15946388913382835224:=z
def tw15948780112781908787:=z
def tw15967140613478806237:=z
def tw15992342658441690333:=z
def tw1600037746751723098:=z
def tw16006246977917349235:=z
def tw16007149819294483003:=z
def tw16009884308244765898:=z
def tw16011055738799735888:=z
def tw16029623286316568529:=z
def tw1603739661141634737:=z
def tw16037735763661986305:=z
def tw16053994301053490033:=z
def tw16056359734778111409:=z
def tw16064382804478563927:=z
def tw16091413853298234908:=z
def tw1610171440888473627:=z
def tw16138627921320673191:=z
def tw16169374299450900766:=z
def tw16171809288044610508:=z
def tw16178712458983371728:=z
def tw16194383521188589630:=z
def tw16240987189780228909:=z
def tw16257038226119295666:=z
def tw16259696140248634718:=z
def tw162610821266807592:=z
def tw16299908979028503884:=z
def tw16302227732802510677:=z
def tw16345102440705955213:=z
def tw16353284522026333675:=z
def tw16357263729072622229:=z
def tw16376525773666504680:=z
def tw16412773359747925120:=z
def tw16432713993328977331:=z
def tw16456969618363192440:=z
def tw16473244170626142550:=z
def tw16477043939570097188:=z
def tw16487816990975572028:=z
def tw16502264421070913907:=z
def tw16634568088961857937:=z
def tw16640546478005224243:=z
def tw16649331688326792143:=z
def tw1666387254794493845:=z
def tw16684818696116721337:=z
def tw16694946328126371552:=z
def tw16713699803418581334:=z
def tw16722109127936396110:=z
def tw16772102934027710169:=z
def tw16794629799341752650:=z
def tw16828841361933241965:=z
def tw16853341256802265648:=z
def tw16858285156579221889:=z
def tw16868993833207775613:=z
def tw16896567674234606475:=z
def tw16904818350239718627:=z
def tw16920754564084929960:=z
def tw16945582573551092051:=z
def tw16970440968685349367:=z
def tw1699103778626983548:=z
def tw17001982702790524580:=z
def tw17047115858639842297:=z
def tw17054507655720011243:=z
def tw17062030032774818151:=z
def tw17070941380808615275:=z
def tw17076082267592564974:=z
def tw17088047866570459193:=z
def tw1712922718373300912:=z
def tw17130151131035750659:=z
def tw17177331786930743035:=z
def tw17183224562656869120:=z
def tw17213754286329925777:=z
def tw17234923516513369237:=z
def tw17252143746492648416:=z
def tw17311223219408574766:=z
def tw17312999752573914782:=z
def tw17325209927041812611:=z
def tw17330945745186091897:=z
def tw17336936450418997793:=z
def tw17377529257436501650:=z
def tw17387473266821786944:=z
def tw17420951861521290806:=z
def tw17429513623812275283:=z
def tw17430575921969211009:=z
def tw17438259276822278317:=z
def tw17447410573909459338:=z
def tw17454471701868102899:=z
def tw17470177872615007328:=z
def tw17471934795394947791:=z
def tw17491280204586788870:=z
def tw17491317419825422843:=z
def tw17495340751864218003:=z
def tw17542962492245011380:=z
def tw17562767543260142214:=z
def tw17574625026820762457:=z
def tw17577478241444706838:=z
def tw17588044629489971554:=z
def tw17599816209265215132:=z
def tw17606422857730326317:=z
def tw17628472586750557451:=z
def tw17650839729002327288:=z
def tw17672654358674132775:=z
def tw17673860158736603733:=z
def tw17696971302532935780:=z
def tw17711083657039698284:=z
def tw17714235663813219645:=z
def tw17739348878880393726:=z
def tw1781861727890032366:=z
def tw17843490464661113860:=z
def tw17893044597097874663:=z
def tw17895171251205151618:=z
def tw17901334829092211166:=z
def tw17902569758825723728:=z
def tw17903497710992402801:=z
def tw17919194246423945575:=z
def tw17925215291927510665:=z
def tw1792636949448641307:=z
def tw17948085552500728524:=z
def tw17950676927832955104:=z
def tw17956543221229664512:=z
def tw17975533764899295144:=z
def tw17986969038992634876:=z
def tw17989097746536338734:=z
def tw1800889605409440832:=z
def tw18093812233618175256:=z
def tw18095200977026478895:=z
def tw18163647496604598072:=z
def tw18166333605607142505:=z
def tw18176940659606848779:=z
def tw18179948846604907508:=z
def tw18185175575083235020:=z
def tw18241275227582772068:=z
def tw18245042118932799458:=z
def tw18264374347568628810:=z
def tw18268791191939849864:=z
def tw18293851220164018083:=z
def tw18322514126500204803:=z
def tw1847840615245081061:=z
def tw1848646778235469078:=z
def tw185848376630758926:=z
def tw1882180444382439491:=z
def tw189712035060473897:=z
def tw1954109241102656831:=z
def tw2001351230973187099:=z
def tw2040990291671593033:=z
def tw2068664650715991707:=z
def tw2101469004524951375:=z
def tw2114630138375439770:=z
def tw2116866144845905953:=z
def tw2134215046882385847:=z
def tw2167537188350426706:=z
def tw2195365466389143174:=z
def tw2216850387143573719:=z
def tw2252305205657439004:=z
def tw22551697357593593:=z
def tw2263123870574935043:=z
def tw2274498078352570744:=z
def tw2284436838669742495:=z
def tw2304311442786299043:=z
def tw2315301623876862497:=z
def tw2327210489368252092:=z
def tw2329189449893159454:=z
def tw2386827423013361158:=z
def tw2391449824757734642:=z
def tw242841246431481386:=z
def tw243823211424636713:=z
def tw2442259710966052079:=z
def tw2448417245163862455:=z
def tw2457190517430149469:=z
def tw2480057099694739299:=z
def tw2502866573005156581:=z
def tw250903467453971090:=z
def tw257007361410690125:=z
def tw2595994805191909183:=z
def tw2608437505485318709:=z
def tw262745018181394680:=z
def tw26425463804135960:=z
def tw2674002104343415650:=z
def tw2708950531961675432:=z
def tw2739504486584576224:=z
def tw2781682124601125471:=z
def tw2783992281797965187:=z
def tw2799067240506288376:=z
def tw2808349399557158395:=z
def tw2845207389951388047:=z
def tw2845679848157327705:=z
def tw2855845756224970109:=z
def tw2867327485932766208:=z
def tw2887051446865420828:=z
def tw2922222751358710265:=z
def tw2930668341846507884:=z
def tw2999033326186475339:=z
def tw3008623586974134963:=z
def tw307737655149646647:=z
def tw3085183777334472315:=z
def tw3109861748172591687:=z
def tw313027258313007627:=z
def tw3182187488490625086:=z
def tw3196399650302076718:=z
def tw3219085151875037572:=z
def tw3229955645248102723:=z
def tw3301654171414802437:=z
def tw3309697970292668127:=z
def tw3350844169311001129:=z
def tw3350930974749635488:=z
def tw3381375190539634487:=z
def tw3419581819265744254:=z
def tw3434918251397683217:=z
def tw3442329435671937591:=z
def tw3443669649825651883:=z
def tw3451239065008710300:=z
def tw3452082135128663414:=z
def tw3480954088277226078:=z
def tw3484992998616243462:=z
def tw3493717111155160527:=z
def tw3510980238559043118:=z
def tw3513125359445811510:=z
def tw3530705653197291679:=z
def tw3571134770919094901:=z
def tw3646829019195819677:=z
def tw3673020696563887462:=z
def tw368366308016060594:=z
def tw3694398316872202419:=z
def tw3704167492566942397:=z
def tw3722166409189360004:=z
def tw3789350110615891812:=z
def tw3795277891434052102:=z
def tw3816877163431070358:=z
def tw3828038474966422129:=z
def tw3915529967508079626:=z
def tw3919010098100093602:=z
def tw3920623390966001496:=z
def tw3940546777539579641:=z
def tw3941438180925939637:=z
def tw3947710232987724695:=z
def tw3953601041324332601:=z
def tw4014540891139286612:=z
def tw4015398097383911347:=z
def tw402640490398009360:=z
def tw4068527845204499245:=z
def tw4086058157674990017:=z
def tw4091639524402994376:=z
def tw4126306136578151734:=z
def tw4138081844389336918:=z
def tw4159134105002834734:=z
def tw4172343393113369950:=z
def tw4225703048834024713:=z
def tw4282304852377368616:=z
def tw4282359134580295075:=z
def tw4297731678662094536:=z
def tw432457690288141553:=z
def tw4360684699965382250:=z
def tw4363365295628954845:=z
def tw4367231431732253908:=z
def tw4377701919642642989:=z
def tw4402725079659364252:=z
def tw442638132926106271:=z
def tw4449123307109862055:=z
def tw4478177076189095293:=z
def tw4478964076566166474:=z
def tw4642405928176397000:=z
def tw4643362625855044894:=z
def tw464777395874653626:=z
def tw4654797750381630734:=z
def tw4706079058837389440:=z
def tw4788038989552484473:=z
def tw4817003022231809500:=z
def tw4819202231147424091:=z
def tw4823875265637086484:=z
def tw4851647983119433812:=z
def tw4856431653887292112:=z
def tw4870687313549177768:=z
def tw4990156530697904881:=z
def tw4993660671451451078:=z
def tw5009564483982726761:=z
def tw5010264101278932077:=z
def tw5036846961687405229:=z
def tw5054737718236178183:=z
def tw5148922909946612681:=z
def tw5167245352685981253:=z
def tw5174551420813472067:=z
def tw518976864732996251:=z
def tw519851828213033955:=z
def tw5238241317806426387:=z
def tw5245234834050458271:=z
def tw5247051413645994129:=z
def tw526207354791536317:=z
def tw5262127132688788605:=z
def tw5268376606809103941:=z
def tw5278057926702712004:=z
def tw5283464899586487735:=z
def tw5292301768408028288:=z
def tw5318216170032084099:=z
def tw5343241284826551009:=z
def tw5362516397382645915:=z
def tw5363564295841288755:=z
def tw5366084841770067474:=z
def tw5367187694478559379:=z
def tw5373601922739893978:=z
def tw5388632664720090651:=z
def tw541196102884509978:=z
def tw5480042469492414594:=z
def tw5486487638281291605:=z
def tw5505005885091257285:=z
def tw5505332120971382143:=z
def tw5511420028821071320:=z
def tw5513025101015932971:=z
def tw5535567543195554156:=z
def tw5562173858411828344:=z
def tw5592360268479517082:=z
def tw561391293025646643:=z
def tw5629675986466331604:=z
def tw5634249674695799605:=z
def tw5635641802508607975:=z
def tw5715356086224469760:=z
def tw5716766192118558609:=z
def tw5732804406350252772:=z
def tw5781342201191254626:=z
def tw5873113503399164460:=z
def tw5902613922787404954:=z
def tw5961118342813265553:=z
def tw5976792059365374437:=z
def tw5978321128707920903:=z
def tw5987830557187376847:=z
def tw6038821095411175016:=z
def tw6046454685291232161:=z
def tw6079173187612997037:=z
def tw6082411064634330575:=z
def tw6123773746684550334:=z
def tw6136932545381038964:=z
def tw6184208073178115725:=z
def tw6186238094035137676:=z
def tw6264232113106981867:=z
def tw6291416237084387574:=z
def tw6293948785866598258:=z
def tw6305734824756694309:=z
def tw6308581086252854402:=z
def tw6320253292602491972:=z
def tw6394381022753523788:=z
def tw6407587892757256292:=z
def tw6411954120941647267:=z
def tw6423634429210846174:=z
def tw6438293893037913957:=z
def tw6449127861642672459:=z
def tw6464495981786294532:=z
def tw6469175993241445255:=z
def tw6482722132109649516:=z
def tw6528754448969337418:=z
def tw6545403380812914513:=z
def tw6547078798241139092:=z
def tw6555240042291301478:=z
def tw6578402527460240241:=z
def tw6598312636042714100:=z
def tw6627881031435992008:=z
def tw663384727985864361:=z
def tw6683769817339685419:=z
def tw6755925336976613232:=z
def tw6759412095888398321:=z
def tw6767318904944593275:=z
def tw6785817131721698500:=z
def tw6804821044290156842:=z
def tw6818987989461384207:=z
def tw6820862383352777685:=z
def tw6838551448383532254:=z
def tw6882427118574961969:=z
def tw6898005170327248138:=z
def tw6924109203229866365:=z
def tw6931407450589930559:=z
def tw6957150274394394060:=z
def tw6965799899956892507:=z
def tw697623264460660564:=z
def tw6982297934935202809:=z
def tw6998783941825042932:=z
def tw701333769924781912:=z
def tw7017088699519741930:=z
def tw701787995468756871:=z
def tw7023726343779634624:=z
def tw7028611270464810887:=z
def tw7031273417212677730:=z
def tw7068711184596962023:=z
def tw7080932558258925280:=z
def tw7082855905992002993:=z
def tw7085514621470718492:=z
def tw7120233287515763914:=z
def tw7152984921513172624:=z
def tw7153062008950511462:=z
def tw7191455744419660376:=z
def tw7261450039545342454:=z
def tw7270182246851987180:=z
def tw728884934406724761:=z
def tw7289634563603522867:=z
def tw7292484366425897655:=z
def tw7296583596125217682:=z
def tw7317836474542784337:=z
def tw732345407407602841:=z
def tw7354087734392854552:=z
def tw7369741819223213686:=z
def tw7372000682148998216:=z
def tw7379015992945566340:=z
def tw7382370116671421104:=z
def tw7436338863632668701:=z
def tw7492773218913965947:=z
def tw7494724483528729301:=z
def tw7510230149288206974:=z
def tw7512474625130614241:=z
def tw7519716089354478335:=z
def tw7523672394736509286:=z
def tw7525542149764818722:=z
def tw7526368328331116154:=z
def tw7540741092611519060:=z
def tw7541792107247259296:=z
def tw7578210074245671484:=z
def tw758273949599710562:=z
def tw7598622570094877466:=z
def tw7628703163842673926:=z
def tw7640094616464845771:=z
def tw7654286748164834634:=z
def tw7676003278276379012:=z
def tw7698358502638924378:=z
def tw7721951785955056133:=z
def tw7746578258024575070:=z
def tw7752767780024739350:=z
def tw7754304195085646258:=z
def tw7763873220885509757:=z
def tw7792395482447073224:=z
def tw7793673504863384051:=z
def tw7854228177987924090:=z
def tw7880807054014371918:=z
def tw7891253978561527248:=z
def tw7927469264209771579:=z
def tw7943647380988272828:=z
def tw8004679753235328684:=z
def tw8015326511298524721:=z
def tw8025032847418708242:=z
def tw8044012406986999415:=z
def tw8047900516022102942:=z
def tw8053944837975664402:=z
def tw8081886968326746073:=z
def tw8117029840178788049:=z
def tw8134915037123179040:=z
def tw8184699220007379433:=z
def tw8191903926673212241:=z
def tw8226494294326810461:=z
def tw8228950375871286339:=z
def tw8242931771332617035:=z
def tw8244733829118024811:=z
def tw825126770350376351:=z
def tw8273930003744585626:=z
def tw8312999807965096350:=z
def tw8317466277049474617:=z
def tw833173182276230429:=z
def tw8343274005884668182:=z
def tw8351282476255451920:=z
def tw8356816923877370021:=z
def tw8381844023166312768:=z
def tw8428860471423672150:=z
def tw8430425405203222951:=z
def tw8457440626546761165:=z
def tw8458067239894703972:=z
def tw8479784124755550697:=z
def tw8493152586797012548:=z
def tw8516288146210602744:=z
def tw8587404781116728655:=z
def tw8589211134812392127:=z
def tw8609351116199087170:=z
def tw8652628183442184457:=z
def tw8664936974563722654:=z
def tw8671608845466749128:=z
def tw8683856772340465682:=z
def tw8684328023851190084:=z
def tw8716120427605611371:=z
def tw8727321023445011275:=z
def tw8735263284916673568:=z
def tw8770205317985620760:=z
def tw8770659054964912022:=z
def tw8801323125487838256:=z
def tw881544763273948857:=z
def tw8879563391730754479:=z
def tw8959176491354863721:=z
def tw8960069828448710407:=z
def tw8965841893048198262:=z
def tw8974332556005633416:=z
def tw8977307856219701671:=z
def tw8990313861142287110:=z
def tw9013056391748086436:=z
def tw9073681462420916055:=z
def tw9077708301081682751:=z
def tw9131607905817354932:=z
def tw9153386212771759811:=z
def tw9155422001095189878:=z
def tw9170477692918782315:=z
def tw9184186324627900627:=z
def tw922143313871775805:=z
def tw9228397985900620932:=z
def tw9244321171653502345:=z
def tw9249409317196496141:=z
def tw9271970288684553227:=z
def tw9277588360372424766:=z
def tw9298403506768410418:=z
def tw9325612240067072397:=z
def tw9330943631129107780:=z
def tw9345929723534960622:=z
def tw9386895884608548742:=z
def tw940617070666608080:=z
def tw9406673726873002282:=z
def tw9421340871869096474:=z
def tw9427301549700849589:=z
def tw9430268157657104642:=z
def tw9449672872311958731:=z
def tw9459050058782445324:=z
def tw9496365245306024149:=z
def tw9499510787657705874:=z
def tw9533747618267967006:=z
def tw9555612238305686254:=z
def tw9557236495431379559:=z
def tw9566141503761928105:=z
def tw9577689765879766989:=z
def tw960944832710211464:=z
def tw9617658007855726926:=z
def tw9657781627882305391:=z
def tw9702936160620672325:=z
def tw9719896912496429819:=z
def tw9741134391959003819:=z
def tw9748044761591592747:=z
def tw9763420282994701918:=z
def tw9783614193127449063:=z
def tw9908193460736022307:=z
def tw991583007596301734:=z
def tw9960721518486171458:=z
def tw9983995961361265002:=z
def tw9990345226319884068:=z
def tw5203280327086689793:=z
def tw914075938170781477:=z
end
end Mine.hd
section
open PySem PySem.W PyProof.Rows
set_option Elab.async true in
set_option maxHeartbeats 8000000 in
theorem Mine.hd : PySem.Challenge.rw_nz0530_01.Holds := by
  w_on; o_law; k_head; (case hw => w_witness2)
  k_fill
  intro w s₀ s₁ mg mb G Y fa o pm cd doc dV kV ho hdt hcd hD hmg hg args vals as hpre hlay hrd hwl hlo
  have KX := km_in_of Y
  have hwl' := hwl
  km_tabs Y
  refine Ground.open G ?_
  intro T B D TE TW
  try (refine guard_noD D (by decide +kernel) ?_; clear D)
  km_lay T hmg ho hdt cd
  refine Mine.Lake.YO KX ⟨by kernel_rfl, by kernel_rfl, fun S v => by kernel_rfl, by kernel_rfl, by kernel_rfl, by kernel_rfl, by kernel_rfl, by kernel_rfl, by kernel_rfl, by kernel_rfl, by kernel_rfl, by kernel_rfl, by kernel_rfl, by kernel_rfl, fun S v0 v1 v2 v3 => by kernel_rfl⟩ fun hB => ?_
  have hfa : fa = 872 := by
    have e := mg_of KX (Top.g T) (Mine.Lake.afK hB)
    rw [show mg "law" = some (Value.ref fa) from hmg] at e
    cases e; rfl
  subst hfa
  clear hdt hD hmg hcd ho
  wrow_args hpre hlay hrd hwl hlo
  all_goals (
    first | refine callC_kw (enter_call ?_) | refine enter_call ?_
    w_top on
    kn_posts)
  refine Mine.Lake.acg hB hT9 KX T hg hwl' (by assumption) (by assumption) (by omega) (fun cls => rfl) (by kernel_rfl)
end
theorem PySem.Challenge.cw_nz0530_01_holds : PySem.Challenge.rw_nz0530_01.Holds :=
  Mine.hd
