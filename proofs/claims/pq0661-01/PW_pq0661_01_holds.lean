import PyProof.Rows.All
import OpenK.AllK
import Wide.FinOn
import OpenK.XOpen
import Open.Row
import PyProof.Rows.CellsNews
import PyProof.Rows.NameDeclared
import KE.BytesMulAny
import KE.BytesMake
import KE.KBytesCut
import KE.KRevSl
import PyProof.ListIndex
import KE.KPar
import PyProof.StationsW
import OpenK.KCall
import PyProof.Rows.SortKeyStr
import PyProof.Rows.SortRunsK
import PyProof.Rows.SortShellK
import PyProof.Rows.SortRev
import PyProof.CodeObjX
import PyProof.DefMake
import PyProof.ExcClass2
import PyProof.ExcBaseAll.Exception
import PyProof.RulesTry
import OpenK.KCls
import OpenK.KMore
import PyProof.InstStoreFacts
import OpenK.KWalk
import Lean
import PySem.Challenge.RW_pq0661_01
set_option Elab.async false
set_option linter.all false
set_option maxRecDepth 100000
set_option genSizeOf false
open Option renaming some->aa,none->aw,rec->bl,isSome_iff_exists->fq,map->nq,map_eq_some_iff->jZ
open _root_ renaming List->ab,Nat->ae,Option->ao,Bool->aE,congrArg->aY,if_neg->aU,if_pos->bc,decide_eq_false->bw,inferInstance->bB,decide_eq_true->cc,UInt8->cK,beq_eq_false_iff_ne->cV,String->cZ,absurd->er,beq_iff_eq->eF,of_decide_eq_true->eH,Nonempty->iA,decide_eq_true_iff->iS,Unit->jb,False->jD,Decidable->jP,congrFun->AR,of_decide_eq_false->kZ,beq_self_eq_true->DH,if_false->pP,if_true->AW,dif_neg->Q9,or_false->VY
open Option.some renaming inj->af
open PySem renaming Value->ag,Shared->ah,wpAny_bind->ak,Addr->aB,wpAny_pure->aH,Expr->aQ,Around->aW,DictEntry->aZ,Heap->bJ,sizeLine_eq->bD,model->bK,wpAny->bO,builtinLookup_eq_fast->bQ,Program->bS,Params->bZ,World->bU,Comprehension->bX,eval->cn,compareOp->cq,typeLookup_type->cH,wpAny_specialOf->cI,Stmt->cF,callEnvC->cW,Result->c8,mainGlobals->dh,wpAny_holding->dk,starEach->dm,wpAny_loadPart_at->dp,NameKind->ff,holding->dJ,typeLookup->dQ,wpAny_of_eq->d0,Model->dZ,sizeLine->ec,wpAny_call_entry->eS,OsState->eT,execs->eY,builtinsNs->fh,wpAny_truthy_bool->fi,assign->fx,backTo->f6,isSubtype_type->f7,GenState->gu,binaryOp->gv,assignInOrder->gD,FuncData->gU,wpAny_field->hE,assignEach->hX,standAt->ij,wpAny_isSubtype_exc->ik,truthy->iB,recursionLimit->mh,wpAny_isInstance->iC,entryFor_of_tree->iD,methodCallForm->iE,leftWithCleanup->iY,noteFrame->i9,Scope->jB,treeTable->jO,compareChain->jQ,CmpOp->jW,argsOk->kl,getitemInPython->kI,wpAny_rule->kX,pyIter->kY,wpAny_callSpecial?_slot->lq,callWith->h7,foldedSetIterable->mf,wpAny_seqItems->mi,getMethod_builtin->mj,wpAny_notOrdered_dict->mQ,wpAny_load->m9,signature?_of->nr,methodCallPos->nu,ExceptHandler->nv,evalEach->nD,entryFor->nE,sliceBounds->nH,subscripted->nI,theTreesLotGoes->oq,letOwnedTupleGo->ot,Drawn->ou,spliced->oV,exec->oW,leaving->oX,testChain->o7,newFunctionEnv->pQ,rawInt->pS,wpAny_newObj_type->qA,valueOrNone->qB,wpAny_sequenceKey->qD,setItem->qF,swappedStores->rd,plainId_quiet->rf,boolOp->rh,bindName->sj,wpAny_lookBehind->sk,getMethod->sm,wpAny_execs_cons->sq,Flow->tT,allTrue->tU,clipAt_nat->tX,nsFind->tY,letTemporaryGo->wQ,interactive->wR,findBy->wU,wpAny_updateDictKeys->wX,codeAny_call_builtin->wY,wpAny_letGo->wZ,refuseLoop_ref->w0,Arguments->xr,evalAll->xy,arm_eval_Call_Name'->xT,wpAny_standAt->ye,table->yf,swapsWithSole->yh,wpAny_mkBytes->yi,typeIs_str->z6,wpAny_mono->z_,keeperOf->Iw,relabel->AU,wpAny_typeOf->AV,wpAny_dictEntries->AX,calleeOf->AZ,compEnvC->A0,setFlight->DC,wpAny_comp_letGo->DD,pastItsLine_dict->DF,assign_Attribute->DJ,newList->DL,opaqueClassAbove->DO,Code->F7,step->F8,wpAny_operating->F9,callerA->Gk,classAt->Gl,evalOpt->Gn,callEnv->Gv,bindArgs->Iy,closureFor->Iz,typeOf->IA,sysModules->IC,wpAny_call->IH,wpAt_of_wpAny->Kh,foldedForSure->Ml,behindInMarks->Mm,comprehension->Mo,wpAny_newList->Mq,attributeBase->Ms,outcomeOf->MI,markedBehindIn_of_false->MJ,swapsWith->ML,isSubtype->MQ,wpAny_ite->MR,cellsFrom->aeh,evalPairs->MS,DefRec->Q3,Ctx->Q4,unaryOp->Q7,getAttr->Q8,getItem->Q_,clipAt->Rb,byteArr->Rg,pyNext->Rj,BindsTo->Rk,wpAny_noteFrame_againW->Rv,wpAt_bind->R9,wpAny_point->VD,rule->VE,evalArgs->VG,slicePicked->VK,arm_assign_Subscript->VQ,keywordEach->V0,Setting->Xe,wpAny_Assign_stores->Xh
open Bool renaming false->ai,true->aq,false_ne_true->bM,rec->dD,and_eq_true->d_,false_eq_true->ft,eq_iff_iff->iJ,eq_false_iff->iR,and_eq_true_iff->gY,or_eq_false_iff->i_,or_eq_true->VO
open Nat renaming beq->au,succ->ar,eq_of_beq_eq_true->ay,le_refl->aF,add->aM,le_trans->bq,zero_le->bj,le_add_right->bp,le_of_ble_eq_true->bx,mod->bz,blt->bH,lt_of_lt_of_le->bN,mul->bP,lt_of_le_of_lt->cD,ble->cf,ble_eq_true_of_le->cz,lt_of_add_left_lt->cA,ne_of_lt->df,zero_add->dY,lt_succ_of_le->ew,rec->eb,zero_lt_succ->ed,le_of_succ_le->eW,le_of_lt_succ->ey,le_of_eq->iz,beq_refl->eL,lt_of_succ_lt_succ->eV,add_le_add_left->nk,not_lt_zero->e_,le_succ->fa,le_sub_one_of_lt->fM,min_eq_left->f9,le_of_not_lt->h4,sub_add_cancel->iF,div->gC,le_of_add_left_le->gG,le_antisymm->gZ,lt_trans->g8,succ_add_eq_add_succ->hD,add_sub_cancel'->vo,add_sub_cancel_left->hZ,le_add_left->iL,beq_eq->jd,succ_lt_succ_iff->je,add_comm->nM,succ_pos->k9,lt_succ_of_lt->k_,succ_le_succ->VR,sub->mw,sub_one_lt_of_lt->mL,le_of_lt->nJ,ne_of_gt->nL,lt_asymm->nN,add_right_comm->Rp,sub_pos_of_lt->o9,lt_add_of_pos_right->qu,mul_div_cancel_left->qv,max_eq_right->qx,sub_le->wW,lt_of_add_right_lt->ri,zero_lt_two->r3,succ_eq_add_one->vq,mul_mod_right->xS,lt_or_ge->xU,lt_trichotomy->xW,pow->xX,lt_succ_self->z9,min_le_left->Xj,mul_add_div->Xa,mod_two_eq_zero_or_one->DB,sub_add_eq->DM,mod_lt->Rz,add_assoc->P',lt_succ_iff_lt_or_eq->Ga,sub_zero->IE,le_mul_of_pos_left->IF,le_add_right_of_le->II,sub_self->IK,le_of_sub_eq_zero->Ke,add_le_add_right->aef,two_pos->Mw,mul_le_mul_left->aeg,lt_of_le_of_ne->Rq,lt_or_eq_of_le->Rr,add_sub_cancel->Rt,lt_of_lt_of_eq->Ry,min_eq_right->VJ,succ_lt_succ->VP,one_le_of_lt->VS,lt_of_not_le->VT,not_le_of_lt->VV,div_add_mod->W6
open Prod.mk renaming inj->av
open List renaming mem_cons_self->ax,getElem?_eq_getElem->az,mem_of_getElem?->aA,mem_cons->aG,mem_singleton->aJ,mem_cons_of_mem->aK,casesOn->a6,getElem?_eq_some_iff->aV,size_toArray->a7,mem_append_right->bo,mem_append->bE,mem_map->bF,length_append->bV,length_map->b9,rec->cg,mem_append_left->b0,mem_flatMap->b7,getElem?_append_left->ct,getD_eq_getElem?_getD->cx,cons->cQ,getElem?_map->cL,mem_map_of_mem->cE,length_cons->cY,getElem?_eq_none->c_,append_nil->dj,getElem_of_mem->dV,getElem?_append_right->d7,lookup_cons->dS,append_assoc->eo,pairwise_map->et,mem_filter->eZ,pairwise_reverse->fk,map_map->fz,mem_singleton_self->fQ,take_of_length_le->gf,mem_reverse->gp,not_mem_nil->qh,map_reverse->gq,map_cons->dR,length_take->hK,getElem?_cons_succ->hL,drop_eq_nil_of_le->ig,nodup_cons->gV,pairwise_iff_getElem->jn,drop_eq_getElem_cons->jo,forIn_cons->jU,length->km,findIdx?_toArray->lT,getElem_mem->lW,length_nil->mR,flatMap_append->nh,toArray->xu,getElem?_drop->nY,pairwise_singleton->qd,length_drop->qe,length_eq_zero_iff->qf,all_eq_true->qg,map_append->rj,eq_nil_or_concat->rZ,concat_eq_append->r0,mem_of_mem_drop->s6,drop_eq_nil_iff->s9,range->vr,pairwise_cons->vu,zip_nil_right->vv,eq_getElem_of_length_eq_three->vw,nodup_nil->B',map->Xg,findIdx?_eq_none_iff->DG,take->F_,drop->F',drop_of_length_le->Gp,zipWith->Gs,getElem?_toArray->IB,contains_iff_mem->ID,lookup_cons_self->IJ,pairwise_flatMap->IQ,pairwise_append->Kb,mem_of_mem_take->Kc,length_eraseIdx->Kd,map_congr_left->Mr,filterMap_cons->Mu,filter_eq_self->Mz,reverse_append->MA,findIdx?_cons->MP,find?_toArray->MT,getElem?_take->MU,filter_filter->MV,map_inj_left->Ro,mapM_toArray->Ru,ext_getElem?->Rx,filter_congr->RC,reverse_perm->RG,mem_toArray->RY,isEmpty_nil->yk,filter_cons->R_,find?_cons->VL,drop_drop->W5,mapM_cons->Xf
open PySem.Str renaming ofString->aL,mk->jc,length->wV
open PySem.Challenge renaming pw_pq0661_01->ba,rw_pq0661_01->g7
open PySem.Heap renaming get?_push_of_some->bf,get?_push_size->bA,get?_update_self->dw,SameBut->dy,lt_size->eG,get?_update_other->eU,size_update->jf,get?_none_of_le->s7,size_push->Ca,get?_update_ne->My,get?_push_ne->Rh
open UInt8 renaming ofNat->bR,lt_iff_toNat_lt->iK,toNat_ofNat'->nG,toNat->xt,toNat_inj->RX
open PyProof.Rows renaming arrOf->cj,wpS_bind->dX,seqObj->fj,wpS_pure->f_,Keyed->gW,pendingOf->lu,SortSt->ml,wpS_forRange->oZ,size_push'->pV,SBase->pW,listUpdate_at->rg,failedOf->so,get?_update_seq->t8,wpAny_release'->wO,getElem?_mirror_all->xV,mirror_perm->DU,wpS_reverse->DV,slot_list_sort->IG,wpS_ltKK->IL,setPending->IM,evalArgs_nil3->Mt,listItems_at->Ri,wpS_mono->VU,oneType'->VW,markedEach_of_false->W7
open PySem.Obj renaming mapSeq->cp,isFreed_of_dict->jE,data_mapDictKeys->tZ,data_mapFields->Rw
open Inhabited renaming default->cC
open List.cons renaming inj->c7
open Int renaming ofNat->cR,natCast_nonneg->c9,ofNat_le->nC,le_trans->xO,negSucc->tW,negSucc_lt_zero->vp,ofNat_lt->xP,casesOn->Mk,not_lt->Q6,lt_of_le_of_lt->ael,not_ofNat_neg->RZ,lt_of_not_ge->VH
open PySem.NameKind renaming free->dA,cell->n0,casesOn->h9
open PySem.Value renaming ref->cX,isStrOf_shape->ee,isInt_shape->eh,none->jN,type->jS,bytes->jX,isStrOf->DE
open Prod renaming mk->dE,fst->Xi
open PySem.Heap.SameBut renaming update->eM,refl->DK
open PySem.Builtin.List renaming listUpdate->fo,listItems->n4
open PySem.W renaming typeIs_bytes->fy,boot_drawn->jC,typeIs_bytes->jR,Frag->jT,boot_heap->ll,emptyDict->m_,findIn->pU,instObj->qC,WData->Iu,piecesOf->wN,topFrame->AS,WellAll->xK,behindTheImports->DA,Looks->Iv,boot_toks->MH
open PySem.Expr renaming casesOn->dz
open LawfulBEq renaming eq_of_beq->gd
open PySem.Builtin.Bytes renaming buffer?->fR,order->gF,takeBufferQuiet?->gO,holds->kG,joinLetGo->xv,exported->xQ,sliced->z5,joined->z7
open Classical renaming epsilon->gB,byContradiction->m8,propDecidable->Ah
open ForInStep renaming yield->hY
open PySem.Around renaming frames_deeper->iT,under_plainId->Gq
open Array renaming getElem?_toList->lr,mk->me,length_toList->mP,eraseIdxIfInBounds->oY,toList_inj->pT,find?_toList->Mp,any_toList->Rd,toList_map->RH,size_map->VX
open PySem.Builtin.Str renaming strSliceIndices->lU
open PySem.Builtin.Range renaming rangeSize->ng,small->Af
open PySem.W.Fast renaming tw12908688711261696721->nj,tw2368527892694137696->nX,tw17960256430627541270->AQ,tw3471404346716756564->B5,tw8326940854005059898->B6,tw2436336058641802641->B7,tw9446332074065402090->B8
open PySem.Code renaming builtin->kD,quiet_builtin->nZ
open PySem.ExcName renaming means->oo
open Nat.succ renaming inj->o8
open PySem.comprehension renaming letGo->pR
open PyProof.Rows.KeyOrd renaming kle_refl->qw,kle_antisymm->ta,kle_trans->xx,klt_of_klt_of_kle->Cb,kle_of_klt->Mx
open PySem.W.FB renaming slot_bytes_getitem->s8
open PySem.Sem renaming wp_mono->tS,wp_bind'->Ir
open PySem.W.Looks renaming of_pure->t9
open PySem.W.KBc renaming picked_eq->vt
open PySem.Calls renaming Name_function_global->w5
open List.Pairwise renaming imp_of_mem->w6
open PySem.Value.type renaming inj->xw
open PySem.F renaming slot_list_remove->xR,args_object_init_2->Ra,slot_str_getitem->VI,slot_list_append->VM,slot_list_extend->VN,slot_dict_clear->Xb,slot_str_encode->Xc
open PySem.Expr.Name renaming elim->wo
open PySem.MeetsSeq renaming plain_remove_loop->yj
open PySem.Value.ref renaming inj->MN
open PySem.Builtin.Dict renaming showsAll->z8
open PySem.Heap.IsSliceOf renaming new->Ag
open ForIn renaming forIn->AY
open PySem.Builtin.Int renaming intBits->B_
open PySem.Bind renaming checkArgs->Ce
open LawfulMonad renaming pure_bind->DN
open List.Sublist renaming map->DT
open PySem.Manifest renaming signature?->Gb
open Std.Legacy renaming Range->Gr
open PySem.Within renaming cons->Gu
open Array.Perm renaming refl->IP
open PyProof.Rows.SortSt renaming mk'->Kg
open PySem.Keeper renaming boundFrame->Mn,machine->RW,frame->W8
open PUnit renaming unit->Mv
open Int.ofNat renaming inj->MM
open PySem.W.WData renaming layableAll->Q5
open PySem.W.WShape renaming hasAll->VF
open Eq renaming refl->VZ
open Sum.inr renaming inj->W9
open PySem.W.KBy renaming look_buffer->W_,own_release->W'
open PySem.W.KBw renaming IsBytesIter->Xd
namespace H.Internal
open PySem PySem.W PySem.Calls PyProof.Rows
local macro_rules | `(⋯)=>`(by kernel_rfl)
noncomputable section
set_option tactic.hygienic false
noncomputable abbrev PW:bS:=ba
noncomputable abbrev LW:OpenLaw:=g7
theorem fS(x:a=aq)(y:b=aq):(a&&b)=aq:=by rw[x,y];rfl
theorem ws1:Fast.tw11788848310118352699 PW.main=aq:=⋯
theorem ws2:(Fast.tw9807087744658564304 PW.main.body).isEmpty=aq:=⋯
theorem ws3:Fast.tw8377067652309620493 PW=aq:=⋯
theorem ws4:(R.allR (Fast.tw18344453789297297638 PW) λn=>!B5 Fast.tw14412699480532031325 n)=aq:=⋯
theorem ws5:R.filterR (Fast.tw13343964577679436407 PW PW.main.body) [⟨⟨[118,97,114,115]⟩⟩,⟨⟨[100,105,114]⟩⟩,⟨⟨[108,111,99,97,108,115]⟩⟩]=[]:=⋯
theorem ws6:B6 {strict:=ai,foot:=aw,bare:=[]} PW.main.body=aq:=⋯
theorem ws7:(Fast.tw17119622794617984870 PW PW.main.body λι n=>Fast.tw17868728402115742887 n)=aq:=⋯
theorem ws8:(!R.allR (Fast.tw5923862056798008813 PW.main.body) (B5 Fast.tw17691160309236699985))=ai:=⋯
theorem ws9:nj PW=aq:=by
 unfold nj;exact fS (fS (fS (fS (fS ws1 (by rw[ws2];rfl)) ws3) ws4) ((congr (aY (λb c=>B6 {strict:=b,foot:=aw,bare:=c} PW.main.body) ws8) ws5).trans ws6)) ws7
theorem acw:B7 (nX LW)=aq:=by
 have h:nj (nX LW).prog=aq:=ws9;unfold B7;rw[h];kernel_rfl
theorem acx:AQ (nX LW)=aq:=by
 unfold AQ;rw[acw];kernel_rfl
theorem acy:B8 LW=aq:=by
 unfold B8;rw[acx];kernel_rfl
theorem Ki:LW.wellSaid=aq:=(AR Fast.te9446332074065402090 LW).trans acy
theorem Xk:au (ba.main.body.length) 227=aq:=⋯
noncomputable def sx(l:ab ae):Str:=⟨l.toArray⟩
noncomputable def V1:Str:=sx [95,95,110,97,109,101,95,95]
noncomputable def Sa:Str:=sx [95,95,109,111,100,117,108,101,95,95]
noncomputable def aaa:Str:=sx [95,95,113,117,97,108,110,97,109,101,95,95]
noncomputable def Xl:Str:=sx [95,95,102,105,114,115,116,108,105,110,101,110,111,95,95]
noncomputable def Sd:Str:=sx [95,95,115,116,97,116,105,99,95,97,116,116,114,105,98,117,116,101,115,95,95]
noncomputable def V2:Str:=sx [95,95,100,105,99,116,95,95]
noncomputable def IS:Str:=sx [95,95,119,101,97,107,114,101,102,95,95]
noncomputable def Se:Str:=sx [95,95,100,111,99,95,95]
noncomputable def yl:Str:=sx [47,99,108,97,105,109,47,99,117,116,46,112,121]
noncomputable def aab:Str:=sx [60,109,111,100,117,108,101,62]
noncomputable def MX:Str:=sx [95,95,109,97,105,110,95,95]
noncomputable def aac:Str:=sx [116,121,112,101,46,95,95,115,117,98,99,108,97,115,115,101,115,95,95,46,69,120,99,101,112,116,105,111,110,46,48]
noncomputable def aad:Str:=sx [116,121,112,101,46,95,95,115,117,98,99,108,97,115,115,101,115,95,95,46,69,120,99,101,112,116,105,111,110,46,110]
structure B where
 n:ae
 t:ae
 os:ab Obj
noncomputable def B.add(b:B)(o:Obj):B:=⟨b.n+1,b.t,o::b.os⟩
noncomputable def B.tick(b:B)(k:ae):B:=⟨b.n,b.t+k,b.os⟩
noncomputable def Sg(vs:ab ag):Obj:={cls:=.type "tuple",data:=.seq vs.toArray}
noncomputable def xA(b:B)(vs:ab ag):B:=b.add (Sg vs)
noncomputable def Sh(vs:ab ag):Obj:={cls:=.none,data:=.fields vs.toArray}
noncomputable def iv(n:ae):ag:=.int (cR n) 0
noncomputable def aae:ae->ab Str->ab ag
 |a,[]=>[]|t,s::r=>.str s t::aae (t+1) r
noncomputable def tupS(b:B)(l:ab Str):B:=(xA b (aae b.t l)).tick l.length
structure Cd where
 fields:ab ag
noncomputable def aaf(b:B)(name q:Str)(line a f:ae)(isFn:aE)(locals:ao (ab Str×ab Str))(m:ao gU):B×ae:=
 let t:=b.t
 let g:=xA (b.tick 3) []
 let F:=b.n
 let c:=g.add (Sh [])
 let T:=g.n
 let (d,v1,v2):=match locals with
  |some l=>let h:=tupS c l.1;(tupS h l.2,cX c.n,cX h.n)|none=>(c,jN,jN)
 let (e,v3):=match m with
  |some j=>(d.add {cls:=.none,data:=.func j},cX d.n)|none=>(d,jN)
 let i:=e.tick 2
 (i.add {cls:=.type "code",data:=.fields #[.str name t,.str q (t+1),.str yl (t+2),iv line,iv a,iv 0,iv 0,iv f,.ref F,.bool isFn,iv 181,.ref T,
  .none,v1,v2,v3,iv e.t,iv line,.str yl (e.t+1)]},i.n)
set_option backward.match.sparseCases false in
noncomputable def MY(l:Str->ag)(b:B):aQ->B×ag
 |.Constant (.int i) a c=>(b.tick 1,.int i b.t)|.Constant (.str s) a c=>(b.tick 1,.str s b.t)|.Constant (.bytes s) a c=>(b.tick 1,.bytes s.toArray b.t)|.Constant (.bool x) a c=>(b,.bool x)|.Name x a=>(b,l x)|_=>(b,.none)
noncomputable def IT(l:Str->ag):B->ab aQ->B×ab ag
 |b,[]=>(b,[])|b,e::r=>let (a,v):=MY l b e;let (c,vs):=IT l a r;(c,v::vs)
set_option backward.match.sparseCases false in
noncomputable def aag(l:Str->ag)(b:B):aQ->B×ag
 |.Tuple es c d=>let (a,vs):=IT l b es;(xA a vs,.ref a.n)|e=>MY l b e
noncomputable def V3(l:Str->ag):B->ab aQ->B×ab ag
 |b,[]=>(b,[])|b,e::r=>let (a,v):=aag l b e;let (c,vs):=V3 l a r;(c,v::vs)
noncomputable def aah(name q:Str)(ps:xr)(body:ab cF)(sc:jB):gU:={name,qualname:=q,params:=ps,body:=.stmts body,scope:=sc,globals:=0,closure:=[],defaults:=.none,kwdefaults:=.none}
noncomputable def fnO(name q:Str)(ps:xr)(body:ab cF)(sc:jB)(d nm:ag)(c:ae):Obj:=
 {cls:=.type "function",data:=.func {name,qualname:=q,params:=ps,body:=.stmts body,scope:=sc,globals:=3,closure:=[],defaults:=d,kwdefaults:=.none,pyModule:=nm,code:=.ref c,builtins:=0}}
noncomputable def aai(l:Str->ag)(nm:ag)(p:Str)(b:B)(name:Str)(ps:xr)(body:ab cF)(sc:jB)(line:ae):B×ae×ae:=
 let (a,dv):=V3 l b ps.defaults
 let (e,f):=match dv with
  |[]=>(a,jN)|_=>(xA a dv,cX a.n)
 let q:=p++name
 let (d,c):=aaf e name q line ps.args.length 3 aq (localNames ps sc (.stmts body)) (aa (aah name q ps body sc))
 (d.add (fnO name q ps body sc f nm c),d.n,c)
noncomputable def ent(P:bZ)(k:Str)(t:ae)(v:ag):aZ:=⟨PyData.keyHash P k,.str k t,v⟩
noncomputable def tb(es:ab aZ)(n:ae):Obj:={cls:=.type "dict",data:=.dict es.toArray n}
set_option backward.match.sparseCases false in
noncomputable def MZ(P:bZ)(l:Str->ag)(nm:ag)(p:Str):B->ab cF->B×ab aZ×ab ag
 |b,st::r=>match st with
  |.FunctionDef name ps body e g h sc i j pos=>
   let (a,f,c):=aai l nm p b name ps body sc pos.line
   let (d,es,cs):=MZ P l nm p (a.tick 1) r
   (d,ent P name a.t (.ref f)::es,iv pos.line::iv pos.col::.ref c::cs)
  |_=>MZ P l nm p b r
 |b,[]=>(b,[],[])
set_option genInjectivity false in
structure TS where
 b:B
 nm:ag
 main:ab aZ
 places:ab ag
 subs:ab ag
 ua:ab aZ
noncomputable def xY(main:ab aZ)(x:Str):ag:=match main.find? (λe=>match e.key with|.str s _=>s==x|_=>ai) with
 |some e=>e.val|none=>.type (if x==sx [69,120,99,101,112,116,105,111,110] then "Exception" else "?")
noncomputable def TS.bind(P:bZ)(s:TS)(x:Str)(v:ag):TS:={s with b:=s.b.tick 1,main:=s.main++[ent P x s.b.t v]}
noncomputable def Xm(c n:ae)(nm:ag):Obj:={cls:=.type "frame",slots:= #[aa (.ref c),aa (.ref 3),aa (.ref n),aw,aa nm,aw,aa (.ref 0)]}
noncomputable def bfO(id:cZ)(v:ag):Obj:={cls:=.type "builtin_function_or_method",data:=.fields #[.builtin id,v]}
inductive Base where
 |exc
 |led
 |obj
noncomputable def Base.val:Base->ab ag
 |.exc=>[.type "Exception"]|.led=>[.ref 47]|.obj=>[]
noncomputable def Base.line:Base->ab ag
 |.exc=>[.type "Exception",.type "BaseException",.type "object"]|.led=>[.ref 47,.type "Exception",.type "BaseException",.type "object"]|.obj=>[.type "object"]
noncomputable def aaj(es:ab aZ):ab aZ:=match es with
 |a::_::r=>a::r|r=>r
noncomputable def Xn(P:bZ)(s:TS)(name:Str)(base:Base)(body:ab cF)(a:ab Str)(line:ae):TS:=
 let l:=xY s.main
 let nm:=s.nm
 let f:=s.b.n
 let t:=s.b.t
 let N:=f+2
 let (g,es,cs):=MZ P l nm (name++sx [46]) ⟨f+7,t+12,[]⟩ body
 let e:=ent P Sa (t+7) nm::ent P aaa (t+9) (.str name (t+8))::ent P Xl (t+11) (.int (cR line) (t+10))::es++[ent P Sd (g.t+a.length) (.ref g.n)]
 let code:Obj:={cls:=.type "code",data:=.fields #[.str name (t+2),.str name (t+3),.str yl (t+4),iv line,iv 0,iv 0,iv 0,iv 0,.ref (f+3),.bool ai,iv 181,.ref (f+4),
  .none,.none,.none,.none,iv (t+5),iv line,.str yl (t+6)]}
 let o:=tupS ⟨g.n,g.t,g.os++[Xm (f+5) N nm,code,Sh cs,Sg [],tb e e.length,bfO "type.__prepare__" (.type "type"),Sg base.val]++s.b.os⟩ a
 let c:=o.tick 1
 let aD:=c.n
 let C:=c.n+1
 let (h,more,k):=match base with
  |.exc=>(c.tick 3,[ent P IS (c.t+1) (.ref (C+1)),ent P Se (c.t+2) .none],3)|.led=>(c.tick 1,[ent P Se c.t .none],2)|.obj=>(c.tick 5,[ent P V2 (c.t+1) (.ref (C+1)),ent P IS (c.t+3) (.ref (C+2)),ent P Se (c.t+4) .none],4)
 let m:ag:=match base with|.obj=>.builtin "object.__new__"|_=>.builtin "Exception.__new__"
 let p:ClassData:=ClassData.mk name (match base with|.obj=>[.type "object"]|b=>b.val) (cX C::base.line) aD name aq [] [] ai aw ai
 let O:Obj:={cls:=.type "type",data:=.cls p,slots:= #[(match base with|.obj=>aw|_=>aa (.ref f)),aw,aa (.str name t),aa (.str name (t+8)),aa m,aa (.bool aq)]}
 let d:=(h.add (tb (aaj e++more) k)).add O
 let i:=match base with
  |.exc=>(d.add {cls:=.type "getset_descriptor",data:=.fields #[.str IS c.t,.ref C,.builtin "ExceptionGroup.__weakref__",.none]}).tick 2|.led=>d|.obj=>(d.add {cls:=.type "getset_descriptor",data:=.fields #[.str V2 c.t,.ref C,.builtin "function.__dict__",.builtin "function.__dict__#set"]}).add
    {cls:=.type "getset_descriptor",data:=.fields #[.str IS (c.t+2),.ref C,.builtin "ExceptionGroup.__weakref__",.none]}
 let j:=((i.add {cls:=.type "super",data:=.fields #[.ref C,.ref C,.ref C]}).tick 1).add (bfO "object.__init_subclass__" (.ref C))
 let q:TS:={s with b:=j,subs:=(match base with|.led=>s.subs++[.ref C]|_=>s.subs),ua:=(match base with|.exc=>s.ua++[ent P aac (h.t) (.int (cR C) 0),ent P aad (h.t+1) (.int 1 0)]|_=>s.ua)}
 q.bind P name (.ref C)
set_option backward.match.sparseCases false in
noncomputable def aak(P:bZ)(s:TS):cF->TS
 |.FunctionDef name ps body i j l sc m o pos=>
  let (b,f,c):=aai (xY s.main) s.nm (sx []) s.b name ps body sc pos.line
  ({s with b:=b,places:=s.places++[iv pos.line,iv pos.col,.ref c]}:TS).bind P name (.ref f)
 |.ClassDef name d i body j l m o p a pos=>
  let c:=s.b.n
  let base:=match d with
   |.Name x _::_=>(match xY s.main x with|.ref _=>Base.led|_=>Base.exc)
   |_=>Base.obj
  let g:={s with places:=s.places++[iv pos.line,iv pos.col,.ref (c+5)]}
  Xn P g name base body a pos.line
 |.Assign ts e i=>match ts with
  |t::_=>match t with
   |.Name x i=>
    let (b,v):=aag (xY s.main) s.b e
    if x==V1 then{s with b:=b.tick 1,nm:=v,main:=match s.main with|⟨h,k,_⟩::r=>⟨h,k,v⟩::r|r=>r} else({s with b:=b}:TS).bind P x v
   |_=>s
  |[]=>s
 |_=>s
noncomputable def aal(P:bZ):TS->ab cF->TS
 |s,[]=>s|s,st::r=>aal P (aak P s st) r
noncomputable def Xo(P:bZ):TS where
 b:=⟨15,187,[]⟩
 nm:=.str MX 164
 main:=[ent P V1 165 (.str MX 164),ent P Se 166 .none,ent P (sx [95,95,112,97,99,107,97,103,101,95,95]) 167 .none,ent P (sx [95,95,108,111,97,100,101,114,95,95]) 168 (.builtin "__main__.__loader__#opaque"),
  ent P (sx [95,95,115,112,101,99,95,95]) 169 .none,ent P (sx [95,95,97,110,110,111,116,97,116,105,111,110,115,95,95]) 170 (.ref 6),ent P (sx [95,95,98,117,105,108,116,105,110,115,95,95]) 171 (.ref 4),
  ent P (sx [95,95,102,105,108,101,95,95]) 173 (.str yl 172),ent P (sx [95,95,99,97,99,104,101,100,95,95]) 174 .none]
 places:=[]
 subs:=[]
 ua:=[]
set_option backward.match.sparseCases false in
noncomputable def IU(subs:ab ag)(o:Obj):Obj:=match o with
 |⟨c,d,.cls k,sl⟩=>⟨c,d,.cls {k with subclasses:=subs},sl⟩
 |o=>o
noncomputable def Xp(s:TS):ab Obj:=
 [Sg [],Sh s.places,
  {cls:=.type "code",data:=.fields #[.str aab 182,.str aab 183,.str yl 184,iv 1,iv 0,iv 0,iv 0,iv 0,.ref 11,.bool ai,iv 181,.ref 12,.none,.none,.none,.none,iv 185,iv 1,.str yl 186]},
  {cls:=.type "frame",slots:= #[aa (.ref 13),aa (.ref 3),aa (.ref 3),aw,aa (.str MX 164),aw,aa (.ref 0)]}]++
 (match s.b.os.reverse.splitAt 32 with
  |(a,o::r)=>a++IU s.subs o::r|(a,[])=>a)
def M0(P:bZ)(s:TS):ab Obj:=
 boot_o_0 P::boot_o_1 P::{cls:=.none,data:=.dict s.ua.toArray s.ua.length}::tb s.main s.main.length::boot_o_4 P::boot_o_5 P::boot_o_6 P::boot_o_7 P::boot_o_8 P::boot_o_9 P::boot_o_10 P::Xp s
noncomputable def M3{α:Type}:ab α->ab α×ab α
 |[]=>([],[])|a::r=>match M3 r with|(x,y)=>(a::y,x)
noncomputable def Si:ae->ab Obj->BT
 |0,a=>.nil|n+1,l=>match l with
  |[]=>.nil|o::r=>match M3 r with|(x,y)=>.node o (Si n x) (Si n y)
noncomputable def M4:Life:={}
noncomputable def bodyOf(p:bS):ab cF:=p.main.body
noncomputable def M5(p:bS):Env:={scope:=p.main.scope,locals:=mainNs,globals:=mainNs,cells:=[],code:=.ref 13,frame:=aa 14}
noncomputable def Sj(p:bS):F7:=.body (DA p) (M5 p)
noncomputable def RJ(p:bS)(P:bZ)(k:ae):TS:=aal P (Xo P) ((bodyOf p).take k)
noncomputable def Xq:BT->ae->Obj->BT
 |.nil,a,o=>.node o .nil .nil|.node v l r,i,o=>match au i 0 with
  |true=>.node o l r|false=>match au (i% 2) 1 with
   |true=>.node v (Xq l (i/ 2) o) r|false=>.node v l (Xq r (i/ 2 - 1) o)
noncomputable def Kj:BT->ae->(Obj->Obj)->BT
 |.nil,a,b=>.nil|.node v l r,i,f=>match au i 0 with
  |true=>.node (f v) l r|false=>match au (i% 2) 1 with
   |true=>.node v (Kj l (i/ 2) f) r|false=>.node v l (Kj r (i/ 2 - 1) f)
noncomputable def aam(t:BT)(n:ae):ab Obj->BT
 |[]=>t|o::r=>aam (Xq t n o) (n+1) r
noncomputable def Xr(t:BT):ab ag->BT
 |[]=>t|v::r=>Kj t 47 (IU (v::r))
noncomputable def V4(b:aE)(x y:BT):BT:=match b with
 |true=>x|false=>y
noncomputable def DW(t:BT)(a b:TS):BT:=
 let t1:=Kj (Kj (aam t a.b.n (b.b.os.take (b.b.n - a.b.n)).reverse) 3 (λι=>tb b.main b.main.length)) 12 (λι=>Sh b.places)
 let t2:=V4 (au a.ua.length b.ua.length) t1 (Kj t1 2 (λι=>{cls:=.none,data:=.dict b.ua.toArray b.ua.length}))
 V4 (au a.subs.length b.subs.length) t2 (Xr t2 b.subs)
def IV(p:bS)(P:bZ):ab ae->BT
 |[]=>Si 12 (M0 P (RJ p P 0))|[b]=>DW (Si 12 (M0 P (RJ p P 0))) (RJ p P 0) (RJ p P b)|b::a::r=>DW (IV p P (a::r)) (RJ p P a) (RJ p P b)
def stC(p:bS)(P:bZ)(cuts:ab ae)(os:eT):SharedT:=match RJ p P (cuts.headD 0) with
 |s=>⟨IV p P cuts,s.b.n,M4,#[],jC,s.b.t,os⟩
set_option backward.match.sparseCases false in
noncomputable def aew:aQ->Pos
 |.Name a p=>p|_=>cC
set_option backward.match.sparseCases false in
noncomputable def aex:cF->Pos
 |.FunctionDef a b c d e f g h i p=>p|.ClassDef a b c d e f g h i j p=>p|.Assign (t::_) _ _=>aew t|_=>cC
noncomputable def Sk(p:bS)(k:ae):Pos:=match k with
 |0=>cC|n+1=>match ((bodyOf p).drop n).head? with
  |some s=>aex s|none=>cC
noncomputable def pw:bS:=ba
theorem vx:@segRunT=@PySem.W.Fast.tw10110043849684766642:=PySem.W.Fast.te10110043849684766642
theorem vy:@jO=@PySem.W.Fast.tw14364793385576792824:=PySem.W.Fast.te14364793385576792824
theorem vz:@eY=@PySem.W.Fast.tw12563942051412417395:=PySem.W.Fast.te12563942051412417395
def vB(cuts:ab ae)(b n:ae):Prop:=∀(w:bU)(os:eT),segRunT jO ba w 11 (aa (.ref 6)) 1 n (stC ba w.params cuts os) (wN (((bodyOf ba).drop (cuts.headD 0)).take (b - cuts.headD 0)) (M5 ba) (Sj ba) (Sk ba (cuts.headD 0)) [AS cC])=
  aa (.next,stC ba w.params (b::cuts) os,Sj ba,Sk ba b)
set_option maxHeartbeats 0 in
theorem acz:vB [] 28 3000:=by
 unfold vB;rw[vx,vy];unfold wN;rw[vz];intro w os;kernel_rfl
set_option maxHeartbeats 0 in
theorem acA:vB [28] 67 3000:=by
 unfold vB;rw[vx,vy];unfold wN;rw[vz];intro w os;kernel_rfl
set_option maxHeartbeats 0 in
theorem acB:vB [67,28] 120 3000:=by
 unfold vB;rw[vx,vy];unfold wN;rw[vz];intro w os;kernel_rfl
set_option maxHeartbeats 0 in
theorem acC:vB [120,67,28] 163 3000:=by
 unfold vB;rw[vx,vy];unfold wN;rw[vz];intro w os;kernel_rfl
set_option maxHeartbeats 0 in
theorem acD:vB [163,120,67,28] 202 3000:=by
 unfold vB;rw[vx,vy];unfold wN;rw[vz];intro w os;kernel_rfl
set_option maxHeartbeats 0 in
theorem acE:vB [202,163,120,67,28] 227 3000:=by
 unfold vB;rw[vx,vy];unfold wN;rw[vz];intro w os;kernel_rfl
noncomputable abbrev P1:bS:=ba
theorem acF(w:bU)(os:eT):topGo jO P1 w 11 (aa (.ref 6)) 12 ⟨ll w.params,me [],jC,MH,os⟩ (topStub P1)=
  aa ((stC P1 w.params [] os).abs,⟨denote jO (Sj P1),Sj P1,cC,[AS cC]⟩):=by
 kernel_rfl
theorem Xs(w:bU)(os:eT)(s:ah):segRun jO P1 w 11 (aa (.ref 6)) 1 1 s (blockOf (DA P1) (M5 P1) (Sj P1) cC [AS cC])=
  aa (.next,s,Sj P1,cC):=by
 kernel_rfl
theorem aan:DA P1=bodyOf P1:=⋯
theorem acG(w:bU)(s:ah)(p:Pos):topRun jO P1 w 11 (aa (.ref 6)) 2 s ⟨doneF .next,Sj P1,p,[AS cC]⟩=aa s:=by
 kernel_rfl
theorem aao(w:bU):((ll w.params).isNs dh&&(me ([]:ab gu)).size==0,(ll w.params).objs.size,(ll w.params).nsMap dh "__annotations__")=(aq,11,aa (.ref 6)):=by
 kernel_rfl
theorem M6{α:Type}(l:ab α)(a b:ae)(h:a<=b):l.drop a=(l.drop a).take (b - a)++l.drop b:=by
 conv=>lhs;rw[<-ab.take_append_drop (b - a) (l.drop a)]
 rw[W5,vo h]
theorem kJ{cuts:ab ae}{b n N:ae}{w:bU}{os:eT}{r:ah}(h:vB cuts b n)(a:cuts.headD 0<=b)(k:topRun jO P1 w 11 (aa (.ref 6)) N (stC P1 w.params (b::cuts) os).abs (restOf ((bodyOf P1).drop b) (M5 P1) (Sj P1) (Sk P1 b) [AS cC])=aa r):
  topRun jO P1 w 11 (aa (.ref 6)) (n+N) (stC P1 w.params cuts os).abs (restOf ((bodyOf P1).drop (cuts.headD 0)) (M5 P1) (Sj P1) (Sk P1 (cuts.headD 0)) [AS cC])=aa r:=by
 rw[M6 (bodyOf P1) (cuts.headD 0) b a];exact piece_app (segRun_of (h w os)) k
noncomputable abbrev xZ:ab ae:=[227,202,163,120,67,28]
theorem M7:(bodyOf P1).drop 227=[]:=by
 refine ig (iz ?_);exact ay Xk
theorem acH(w:bU)(os:eT):topRun jO P1 w 11 (aa (.ref 6)) (12+(1+(3000+(3000+(3000+(3000+(3000+(3000+2)))))))) ⟨ll w.params,me [],jC,MH,os⟩ (topStub P1)=aa (stC P1 w.params xZ os).abs:=by
 refine go_top (acF w os) (piece_block (Xs w os _) ?_);rw[aan];refine kJ (cuts:=[]) acz (by decide) ?_
 refine kJ (cuts:=[28]) acA (by decide) ?_
 refine kJ (cuts:=[67,28]) acB (by decide) ?_
 refine kJ (cuts:=[120,67,28]) acC (by decide) ?_
 refine kJ (cuts:=[163,120,67,28]) acD (by decide) ?_
 refine kJ (cuts:=[202,163,120,67,28]) acE (by decide) ?_
 rw[M7];exact piece_nil (acG w _ _)
def iZ(P:bZ):bJ:=absHeap (IV P1 P xZ) (RJ P1 P 227).b.n M4
theorem aap:∀w:bU,(fencedOpening jO P1 w 20000).map (λs=>(s.heap,s.gens,s.drawn,s.toks))=aa (ll w.params,me [],jC,MH):=
 boot_open (⋯) (by decide) (λs=>⋯)
noncomputable def ym:bS:={ba with main:={ba.main with body:=(bodyOf ba).drop 226}}
noncomputable def Cf:ab Str:=[sx [95,119,97,108,108],
 sx [76,101,100,103,101,114,69,114,114,111,114],
 sx [68,97,116,97,70,97,117,108,116],
 sx [67,104,101,99,107,70,97,117,108,116],
 sx [82,117,110,70,97,117,108,116],
 sx [83,105,122,101,70,97,117,108,116],
 sx [70,105,108,101,70,97,117,108,116],
 sx [77,79,83,84,95,80,76,65,67,69,83],
 sx [77,79,83,84,95,80,79,87,69,82],
 sx [77,79,83,84,95,70,73,71,85,82,69,83],
 sx [99,117,116,95,113,117,111,116,105,101,110,116],
 sx [100,101,99,105,109,97,108],
 sx [107,101,112,116],
 sx [117,110,105,116,115,95,98,101,115,105,100,101],
 sx [112,108,117,115],
 sx [109,105,110,117,115],
 sx [116,105,109,101,115],
 sx [110,101,103,97,116,101,100],
 sx [113,117,111,116,105,101,110,116],
 sx [112,111,119,101,114],
 sx [117,110,105,116,115,95,97,116],
 sx [105,115,95,119,104,111,108,101],
 sx [119,104,111,108,101,95,111,102],
 sx [102,105,116,115],
 sx [82,69,65,68,73,78,71,95,107,101,121,102,105,108,101],
 sx [75,101,121,70,105,108,101],
 sx [112,108,97,99,101,115],
 sx [70,73,88,69,68],
 sx [73,78,83,69,82,84,69,68],
 sx [66,76,65,78,75,95,101,100,105,116,105,110,103],
 sx [102,108,111,97,116,105,110,103,95,115,105,103,110],
 sx [114,111,108,101,115,95,111,102],
 sx [105,115,95,115,117,112,112,114,101,115,115,105,110,103],
 sx [102,105,103,117,114,101,115,95,108,97,105,100],
 sx [115,105,103,110,95,116,101,120,116],
 sx [105,110,115,101,114,116,95,116,101,120,116],
 sx [76,97,121,101,114],
 sx [118,97,110,105,115,104,101,100],
 sx [101,100,105,116,101,100,95,116,101,120,116],
 sx [101,100,105,116,101,100],
 sx [100,97,116,97,95,112,108,97,99,101,115],
 sx [105,110,115,101,114,116,101,100],
 sx [78,79,85,71,72,84,95,100,101,101,100,105,116,105,110,103],
 sx [77,73,78,85,83,95,100,101,101,100,105,116,105,110,103],
 sx [111,99,116,101,116,95,112,108,97,99,101,115],
 sx [102,105,103,117,114,101,95,111,102],
 sx [117,110,105,116,115,95,116,111,108,100],
 sx [105,115,95,109,105,110,117,115,95,97,116],
 sx [104,97,115,95,109,105,110,117,115],
 sx [102,105,114,115,116,95,117,110,108,105,107,101],
 sx [110,117,109,98,101,114,95,111,102,95,101,100,105,116,101,100],
 sx [83,104,97,112,101],
 sx [105,115,95,110,117,109,101,114,105,99],
 sx [104,97,115,95,117,110,105,116,115],
 sx [117,110,105,116,95,98,111,117,110,100],
 sx [103,114,111,117,112,95,115,104,97,112,101],
 sx [116,101,120,116,95,115,104,97,112,101],
 sx [110,117,109,98,101,114,101,100,95,115,104,97,112,101],
 sx [102,105,103,117,114,101,95,99,111,117,110,116],
 sx [110,117,109,98,101,114,95,115,104,97,112,101],
 sx [117,110,115,105,103,110,101,100,95,115,104,97,112,101],
 sx [78,79,85,71,72,84,95,117,115,97,103,101,115],
 sx [80,76,85,83],
 sx [77,73,78,85,83,95,117,115,97,103,101,115],
 sx [80,76,85,83,95,70,73,71,85,82,69,83],
 sx [77,73,78,85,83,95,70,73,71,85,82,69,83],
 sx [80,65,67,75,69,68,95,80,76,85,83],
 sx [80,65,67,75,69,68,95,77,73,78,85,83],
 sx [80,65,67,75,69,68,95,80,76,65,73,78],
 sx [107,101,112,116,95,117,110,105,116,115],
 sx [102,105,103,117,114,101,115,95,102,111,114],
 sx [100,105,115,112,108,97,121,95,111,99,116,101,116,115],
 sx [112,97,99,107,101,100,95,111,99,116,101,116,115],
 sx [98,105,110,97,114,121,95,111,99,116,101,116,115],
 sx [111,99,116,101,116,115,95,102,111,114],
 sx [106,111,105,110,101,100,95,102,105,103,117,114,101,115],
 sx [115,105,103,110,101,100,95,102,105,103,117,114,101],
 sx [100,105,115,112,108,97,121,95,117,110,105,116,115],
 sx [112,97,99,107,101,100,95,117,110,105,116,115],
 sx [98,105,110,97,114,121,95,117,110,105,116,115],
 sx [117,110,105,116,115,95,105,110],
 sx [110,117,109,98,101,114,95,105,110],
 sx [99,117,116,95,111,99,116,101,116,115],
 sx [66,76,65,78,75,95,109,111,118,105,110,103],
 sx [78,79,85,71,72,84,95,67,79,68,69],
 sx [78,85,77,66,69,82,83],
 sx [103,111,97,108,115,95,111,102],
 sx [99,97,110,95,109,111,118,101],
 sx [97,108,105,103,110,101,100],
 sx [114,101,112,101,97,116,101,100],
 sx [119,104,111,108,101,95,102,105,103,117,114,101,115,95,111,102],
 sx [119,111,114,116,104,95,105,110,95,116,101,120,116],
 sx [116,101,120,116,95,105,110],
 sx [116,101,120,116,95,102,111,114],
 sx [110,117,109,98,101,114,95,102,111,114],
 sx [109,111,118,101,100],
 sx [112,97,116,116,101,114,110,95,111,102],
 sx [102,105,108,108,101,100,95,110,117,109,98,101,114],
 sx [102,105,108,108,101,100],
 sx [66,89,95,79,82,68,69,82],
 sx [66,89,95,78,85,77,66,69,82],
 sx [108,101,97,115,116,95,102,114,111,109],
 sx [82,101,108,70,105,108,101],
 sx [82,69,65,68,73,78,71,95,114,111,119,102,105,108,101],
 sx [65,68,68,73,78,71],
 sx [82,111,119,70,105,108,101],
 sx [75,73,78,68,83],
 sx [111,117,116,99,111,109,101,95,111,102],
 sx [83,104,101,108,102],
 sx [70,73,76,76,69,82],
 sx [82,69,78,65,77,73,78,71],
 sx [73,116,101,109],
 sx [68,97,116,97],
 sx [114,101,99,111,114,100,115],
 sx [105,116,101,109,115,95,117,110,100,101,114],
 sx [97,108,108,95,105,116,101,109,115],
 sx [105,116,101,109,115,95,97,114,111,117,110,100],
 sx [114,111,111,116,95,111,102],
 sx [110,97,109,101,115,95,97,114,111,117,110,100],
 sx [116,97,98,108,101,115,95,97,114,111,117,110,100],
 sx [105,115,95,103,114,111,117,112],
 sx [112,108,97,105,110,95,107,105,100,115],
 sx [100,97,116,97,95,102,97,117,108,116],
 sx [118,97,108,117,101,100],
 sx [117,110,118,97,108,117,101,100],
 sx [102,105,114,115,116,95,111,99,116,101,116,115],
 sx [105,110,105,116,105,97,108,95,109,101,109,111,114,121],
 sx [84,87,79,95,83,73,68,69,68],
 sx [112,111,115,116,102,105,120],
 sx [97,112,112,108,105,101,100],
 sx [114,101,99,107,111,110,101,100],
 sx [102,105,108,101,95,111,102],
 sx [108,101,97,100,115,95,116,104,114,111,117,103,104],
 sx [111,110,108,121,95,111,110,101],
 sx [102,105,110,100,95,105,116,101,109],
 sx [115,116,114,101,116,99,104],
 sx [87,111,114,108,100],
 sx [105,115,95,105,110,100,101,120],
 sx [109,101,109,111,114,121,95,111,102],
 sx [112,108,97,99,101,95,111,102,95,111,99,116,101,116,115],
 sx [112,97,114,116,95,111,102],
 sx [115,112,111,116,95,105,110],
 sx [111,99,116,101,116,115,95,97,116],
 sx [112,117,116,95,111,99,116,101,116,115],
 sx [111,112,101,114,97,110,100,95,105,110],
 sx [110,117,109,98,101,114,95,111,102],
 sx [119,111,114,116,104,95,105,110],
 sx [119,104,111,108,101,95,105,110],
 sx [112,108,97,105,110,95,114,101,102],
 sx [115,112,101,99,95,111,102],
 sx [97,114,101,97,95,111,102],
 sx [97,114,101,97,95,111,99,116,101,116,115],
 sx [107,101,121,95,112,97,114,116],
 sx [119,104,105,99,104,95,107,101,121],
 sx [103,114,101,97,116,101,115,116,95,110,117,109,98,101,114],
 sx [97,115,107,101,100,95,110,117,109,98,101,114],
 sx [107,101,121,95,110,117,109,98,101,114],
 sx [116,101,108,108,95,110,117,109,98,101,114],
 sx [98,121,95,111,114,100,101,114],
 sx [99,111,110,99,108,117,100,101,100],
 sx [112,117,116,95,114,101,99,111,114,100],
 sx [109,111,118,101,95,105,110,116,111],
 sx [104,97,110,100,108,101,95,111,102],
 sx [105,115,95,112,97,116,104,95,104,101,108,100],
 sx [111,112,101,110,95,115,116,97,116,117,115],
 sx [102,105,114,115,116,95,111,117,116,99,111,109,101],
 sx [100,111,95,111,112,101,110],
 sx [99,108,111,115,101,95,115,116,97,116,117,115],
 sx [100,111,95,99,108,111,115,101],
 sx [114,101,97,100,95,98,121,95,107,101,121],
 sx [114,101,97,100,95,115,116,97,116,117,115],
 sx [114,101,97,100,95,111,110,101],
 sx [100,111,95,114,101,97,100],
 sx [119,114,105,116,101,95,115,116,97,116,117,115],
 sx [77,79,83,84,95,82,79,87,83],
 sx [107,101,121,95,119,111,114,116,104],
 sx [115,111,114,116,101,100,95,114,111,119,115],
 sx [103,111,101,115,95,97,104,101,97,100],
 sx [109,101,114,103,101,100,95,112,97,105,114],
 sx [109,101,114,103,101,100,95,114,111,119,115],
 sx [102,105,116,116,101,100],
 sx [103,111,97,108,95,112,97,114,116,115],
 sx [115,111,114,116,95,112,97,114,116,115],
 sx [107,101,121,95,111,102],
 sx [107,101,121,115,95,111,102],
 sx [114,111,119,115,95,111,102,95,102,105,108,101],
 sx [119,114,105,116,101,95,103,105,118,101,110],
 sx [114,111,119,115,95,116,111,95,102,105,108,101],
 sx [83,111,114,116,82,111,119,115],
 sx [115,111,114,116,95,111,102],
 sx [116,97,107,101,95,114,111,119,115],
 sx [109,101,114,103,101,95,114,111,119,115],
 sx [115,111,114,116,95,115,116,101,112],
 sx [70,105,108,101,83,112,101,99],
 sx [80,114,111,103,114,97,109],
 sx [95,108,97,119,95,117,114,110],
 sx [95,108,97,119,95,108,111,116],
 sx [95,108,97,119,95,114,101,102],
 sx [95,108,97,119,95,105,116,101,109],
 sx [95,108,97,119,95,116,101,120,116],
 sx [95,108,97,119,95,119,111,114,108,100],
 sx [95,108,97,119,95,114,111,119,115],
 sx [95,108,97,119,95,111,114,100,101,114,101,100],
 sx [95,108,97,119,95,105,115,95,100,111,110,101]]
noncomputable def xt0:ah->aE:=λι=>aq
def sZ(w:bU)(os:eT):ah:=⟨iZ w.params,me [],jC,2768,os⟩
theorem acI(w:bU)(os:eT):(stC P1 w.params xZ os).abs=sZ w os:=⋯
theorem Xu(w:bU):(λos=>((staticsOk (importedModules P1.main.body) (ll w.params) (iZ w.params)&&namesBound P1 (iZ w.params)&&gensDone ⟨iZ w.params,me [],jC,2768,os⟩&&laidKept (ll w.params) (iZ w.params)),
    openSeen ym Cf (importedModules P1.main.body) xt0 aq ⟨iZ w.params,me [],jC,2768,os⟩,(⟨iZ w.params,me [],jC,2768,os⟩:ah).heap))=λι=>(aq,openGood ym Cf,iZ w.params):=⋯
theorem acJ(w:bU)(os:eT):topRun jO P1 w 11 (aa (.ref 6)) (12+(1+(3000+(3000+(3000+(3000+(3000+(3000+2)))))))) ⟨ll w.params,me [],jC,MH,os⟩ (topStub P1)=aa ⟨iZ w.params,me [],jC,2768,os⟩:=
 (acH w os).trans (aY aa (acI w os))
theorem aaq:LeftO P1 ym Cf xt0 (λs=>s.heap) (λw=>iZ w.params) 20000:=
 LeftO.of_pieces (H₀:=λP=>ll P) (H₁:=λP=>iZ P) aap aao acJ (by decide) Xu
end
end H.Internal
namespace M.Internal
open PySem PySem.W PySem.Calls PyProof.Rows
local macro_rules | `(⋯)=>`(by kernel_rfl)
noncomputable section
set_option tactic.hygienic false
theorem ub{α:Type}{P:α->Prop}(x:α)(h:P (@gB α ⟨x⟩ λx=> ¬P x)):P x:=m8 λn=>(@Classical.epsilon_spec α (λx=> ¬P x) ⟨x,n⟩) h
def qy{α:Type}(h:iA α)(P:α->Prop):α:=@gB α h λx=> ¬P x
theorem d5{α:Type}{h:iA α}{P:α->Prop}(k:P (qy h P))(x:α):P x:=m8 λn=>(@Classical.epsilon_spec_aux α h (λx=> ¬P x) ⟨x,n⟩) k
theorem lx:iA ah:=⟨{}⟩
theorem eI:iA aW:=⟨{}⟩
theorem iG:iA bU:=⟨⟨λι ι=>0,{strHash:=λι=>0,shareClass:=λι=>0,mergeTok:=id,idOf:=λι=>0,idOfShared:=λι ι=>0,followText:=λι=>aq,idOfImm:=λι=>0}⟩⟩
theorem uc:iA dZ:=iG.elim λw=>⟨⟨λι=>.unsupported "",cC,w⟩⟩
theorem IW:iA ou:=⟨{}⟩
set_option backward.match.sparseCases false
section
theorem ck{p:Prop}(h:(p->jD)->jD):p:=m8 h
theorem b6(h:aw=aa a){p:Prop}:p:=nomatch h
theorem soN(h:aa a=aw){p:Prop}:p:=nomatch h
theorem fT(h:ai=aq){p:Prop}:p:=nomatch h
theorem tF(h:aq=ai){p:Prop}:p:=nomatch h
theorem sr(h:a∈[]){p:Prop}:p:=nomatch h
theorem noC(h:[]=a::l){p:Prop}:p:=nomatch h
inductive V where
 |none|bool (b:aE)|int (i:Int)|str (s:ab ae)|eN (s:ab ae)
 |nil|cons (h t:V)|tup (l:V)
 |a4 (n:ae)|fn (k:ae)|cls (k:ae)|bi (k:ae)|gH (k:ae)
inductive MO where
 |list (l:V)
 |dict (l:V) (ep:ae)
 |inst (c:ae) (as:ab (ae×V))
 |jv (l:ab ae)
 |jg (t:ab (ae×Int))
inductive TR where
 |nil
 |node (v:MO) (l r:TR)
namespace TR
def get(t:TR):ae->ao MO:=@TR.rec (λι=>ae->ao MO) (λι=>aw)
 (λv ι ι l r i=>@dD (λι=>ao MO) (@dD (λι=>ao MO) (r (mw (gC i 2) 1)) (l (gC i 2)) (au (bz i 2) 1)) (aa v) (au i 0)) t
def set(t:TR):ae->MO->TR:=@TR.rec (λι=>ae->MO->TR) (λι o=>.node o .nil .nil)
 (λv l r sl s i o=>@dD (λι=>TR) (@dD (λι=>TR) (.node v l (s (mw (gC i 2) 1) o)) (.node v (sl (gC i 2) o) r) (au (bz i 2) 1)) (.node o l r) (au i 0)) t
end TR
structure St where
 t:TR
 n:ae
theorem neV:iA V:=⟨.none⟩
theorem acK:iA MO:=⟨.list .none⟩
theorem Gw:iA St:=⟨⟨.nil,0⟩⟩
abbrev aX:=ab (ae×V)
abbrev Sc:=ab (Str×ff)
inductive Fl where
 |next
 |ret (v:V)
abbrev Rm(α:Type):=St->ao (α×St)
section
variable{α β:Type}
noncomputable def rt(a:α):Rm α:=λσ=>aa (a,σ)
noncomputable def bW:Rm α:=λι=>aw
def b8(c:Rm α)(f:α->Rm β):Rm β:=λσ=>@bl (α×St) (λι=>ao (β×St)) aw (λp=>f p.1 p.2) (c σ)
def alt(c d:Rm α):Rm α:=λσ=>@bl (α×St) (λι=>ao (α×St)) (d σ) (λp=>aa p) (c σ)
def eB(b:aE)(c:Rm α):Rm α:=@dD (λι=>Rm α) bW c b
def opt(o:ao α)(f:α->Rm β):Rm β:=@bl α (λι=>Rm β) bW f o
def eC(v:V)(f:Int->Rm α):Rm α:=@V.rec (λι=>Rm α) bW (λι=>bW) f (λι=>bW) (λι=>bW) bW (λι ι ι ι=>bW) (λι ι=>bW) (λι=>bW) (λι=>bW) (λι=>bW) (λι=>bW) (λι=>bW) v
def ei(v:V)(f:ae->Rm α):Rm α:=@V.rec (λι=>Rm α) bW (λι=>bW) (λi=>@Int.rec (λι=>Rm α) f (λι=>bW) i) (λι=>bW) (λι=>bW) bW (λι ι ι ι=>bW) (λι ι=>bW) (λι=>bW) (λι=>bW) (λι=>bW) (λι=>bW) (λι=>bW) v
def vC(v:V)(f:aE->Rm α):Rm α:=@V.rec (λι=>Rm α) bW f (λι=>bW) (λι=>bW) (λι=>bW) bW (λι ι ι ι=>bW) (λι ι=>bW) (λι=>bW) (λι=>bW) (λι=>bW) (λι=>bW) (λι=>bW) v
def hH(v:V)(f:ab ae->Rm α):Rm α:=@V.rec (λι=>Rm α) bW (λι=>bW) (λι=>bW) f (λι=>bW) bW (λι ι ι ι=>bW) (λι ι=>bW) (λι=>bW) (λι=>bW) (λι=>bW) (λι=>bW) (λι=>bW) v
def fB(v:V)(f:ab ae->Rm α):Rm α:=@V.rec (λι=>Rm α) bW (λι=>bW) (λι=>bW) (λι=>bW) f bW (λι ι ι ι=>bW) (λι ι=>bW) (λι=>bW) (λι=>bW) (λι=>bW) (λι=>bW) (λι=>bW) v
def mn(v:V)(f:V->Rm α):Rm α:=@V.rec (λι=>Rm α) bW (λι=>bW) (λι=>bW) (λι=>bW) (λι=>bW) bW (λι ι ι ι=>bW) (λl ι=>f l) (λι=>bW) (λι=>bW) (λι=>bW) (λι=>bW) (λι=>bW) v
def ja(v:V)(c:Rm α):Rm α:=@V.rec (λι=>Rm α) c (λι=>bW) (λι=>bW) (λι=>bW) (λι=>bW) bW (λι ι ι ι=>bW) (λι ι=>bW) (λι=>bW) (λι=>bW) (λι=>bW) (λι=>bW) (λι=>bW) v
def jh(v:V)(f:ae->MO->Rm α):Rm α:=@V.rec (λι=>Rm α) bW (λι=>bW) (λι=>bW) (λι=>bW) (λι=>bW) bW (λι ι ι ι=>bW) (λι ι=>bW) (λn σ=>@bl MO (λι=>ao (α×St)) aw (λo=>f n o σ) (σ.t.get n)) (λι=>bW) (λι=>bW) (λι=>bW) (λι=>bW) v
def cb(v:V)(f:ae->V->Rm α):Rm α:=jh v λn o=>MO.casesOn o (f n) (λι ι=>bW) (λι ι=>bW) (λι=>bW) (λι=>bW)
def fu(v:V)(f:ae->V->ae->Rm α):Rm α:=jh v λn o=>MO.casesOn o (λι=>bW) (f n) (λι ι=>bW) (λι=>bW) (λι=>bW)
def n5(v:V)(f:ae->ab ae->Rm α):Rm α:=jh v λn o=>MO.casesOn o (λι=>bW) (λι ι=>bW) (λι ι=>bW) (f n) (λι=>bW)
def o_(v:V)(f:ae->ae->aX->Rm α):Rm α:=jh v λn o=>MO.casesOn o (λι=>bW) (λι ι=>bW) (f n) (λι=>bW) (λι=>bW)
end
def new(o:MO):Rm V:=λσ=>@bl MO (λι=>ao (V×St)) aw (λι=>aa (.a4 σ.n,⟨σ.t.set σ.n o,ar σ.n⟩)) ((σ.t.set σ.n o).get σ.n)
def put(n:ae)(o:MO):Rm jb:=λσ=>@eb (λι=>ao (jb×St)) aw (λι ι=>aa ((),⟨σ.t.set n o,σ.n⟩)) n
def fold{β:Type}(z:β)(f:V->V->β->β)(v:V):β:=@V.rec (λι=>β) z (λι=>z) (λι=>z) (λι=>z) (λι=>z) z (λh t ι b=>f h t b) (λι ι=>z) (λι=>z) (λι=>z) (λι=>z) (λι=>z) (λι=>z) v
def cS{β:Type}(b:aE)(x y:β):β:=@dD (λι=>β) y x b
def dG{α β:Type}(l:ab α)(z:β)(f:α->ab α->β):β:=@cg α (λι=>β) z (λa r ι=>f a r) l
def V5(a:ab ae):ab ae->ao aE:=@cg ae (λι=>ab ae->ao aE) (λb=>dG b (aa aq) λι ι=>aa ai)
 (λx ι i b=>dG b (aa ai) λy q=>cS (au (bz x 256) (bz y 256)) (i q) (aa ai)) a
def sEq(a:ab ae):ab ae->aE:=@cg ae (λι=>ab ae->aE) (λb=>dG b aq λι ι=>ai)
 (λx ι i b=>dG b ai λy q=>cS (au x y) (i q) ai) a
def ji(l:ab ae):ae:=@cg ae (λι=>ae) 0 (λι ι n=>ar n) l
def il(v:V):ae:=fold 0 (λι ι n=>ar n) v
noncomputable def qG{β:Type}(n:ae)(z:β)(f:ae->β):β:=@eb (λι=>β) z (λk ι=>f k) n
def z'(v:V):ae->ao V:=fold (λι=>aw) (λh ι i n=>qG n (aa h) i) v
def tc(a b:V):V:=fold b (λh ι r=>.cons h r) a
def lX(a:V):V->V:=fold (λacc=>acc) (λh ι i acc=>i (.cons h acc)) a
def A1(n:ae)(v:V):V:=fold (λι=>V.nil) (λh ι i n=>qG n .nil λk=>.cons h (i k)) v n
def ud(n:ae)(v:V):V:=@eb (λι=>V->V) (λl=>l) (λι i l=>fold l (λι t ι=>i t) l) n v
def cu(l:ab V):V:=@cg V (λι=>V) .nil (λa ι r=>.cons a r) l
def Z3(l:ab ae):ae->ao ae:=@cg ae (λι=>ae->ao ae) (λι=>aw) (λa ι i n=>qG n (aa a) i) l
def ov(n:ae)(l:ab ae):ab ae:=@eb (λι=>ab ae->ab ae) (λι=>[]) (λι i l=>dG l [] λa r=>a::i r) n l
def w7(n:ae)(l:ab ae):ab ae:=@eb (λι=>ab ae->ab ae) (λl=>l) (λι i l=>dG l [] λι r=>i r) n l
def qH(a b:ab ae):ab ae:=@cg ae (λι=>ab ae) b (λx ι r=>x::r) a
def Gx(n:ae)(l:ab ae):ab ae:=@eb (λι=>ab ae) [] (λι r=>qH l r) n
noncomputable def idxOf(n:ae):Int->ao ae
 |.ofNat k=>match bH k n with|true=>aa k|false=>aw
 |.negSucc k=>match bH k n with|true=>aa (n - (k+1))|false=>aw
def r5(l:V):aE:=cf (il l) 4096
def Ai(l:ab ae):aE:=cf (ji l) 4096
noncomputable def Z4:Int->Int->aE
 |.ofNat a,.ofNat b=>au a b|.negSucc a,.negSucc b=>au a b|c,d=>ai
noncomputable def V6:Int->Int->aE
 |.ofNat a,.ofNat b=>bH a b|.negSucc c,.ofNat d=>aq|.ofNat c,.negSucc d=>ai|.negSucc a,.negSucc b=>bH b a
noncomputable def Gy:aE->aE->aE
 |true,b=>b|false,aq=>ai|false,ai=>aq
noncomputable def dU:aE->aE
 |true=>ai|false=>aq
def c0(re:aX)(x:ae):ao V:=@cg (ae×V) (λι=>ao V) aw (λp ι q=>@dD (λι=>ao V) q (aa p.2) (au x p.1)) re
def jY(re:aX)(x:ae)(v:V):aX:=@cg (ae×V) (λι=>aX) [(x,v)] (λp r q=>@dD (λι=>aX) (p::q) ((p.1,v)::r) (au x p.1)) re
noncomputable def Xv:aX->ae
 |[]=>0|_::r=>ar (Xv r)
def isKey(a b:V):aE:=V.casesOn a ai (λι=>ai) (λi=>V.casesOn b ai (λι=>ai) (λj=>Mk i (λx=>Mk j (λy=>au x y) (λι=>ai)) (λι=>ai)) (λι=>ai) (λι=>ai) ai (λι ι=>ai) (λι=>ai) (λι=>ai) (λι=>ai) (λι=>ai) (λι=>ai) (λι=>ai))
 (λx=>V.casesOn b ai (λι=>ai) (λι=>ai) (λy=>sEq x y) (λι=>ai) ai (λι ι=>ai) (λι=>ai) (λι=>ai) (λι=>ai) (λι=>ai) (λι=>ai) (λι=>ai))
 (λι=>ai) ai (λι ι=>ai) (λι=>ai) (λι=>ai) (λι=>ai) (λι=>ai) (λι=>ai) (λι=>ai)
noncomputable def keyOk(a:V):aE:=V.casesOn a ai (λι=>ai) (λi=>Mk i (λι=>aq) (λι=>ai)) (λι=>aq) (λι=>ai) ai (λι ι=>ai) (λι=>ai) (λι=>ai) (λι=>ai) (λι=>ai) (λι=>ai) (λι=>ai)
noncomputable def pairD{β:Type}(e:V)(z:β)(f:V->V->β):β:=V.casesOn e z (λι=>z) (λι=>z) (λι=>z) (λι=>z) z f (λι=>z) (λι=>z) (λι=>z) (λι=>z) (λι=>z) (λι=>z)
def getD(l x:V):ao V:=fold aw (λe ι i=>pairD e aw λk v=>cS (isKey k x) (aa v) i) l
def DX(l x v:V):V:=fold (.cons (.cons x v) .nil) (λe r i=>pairD e (.cons (.cons x v) .nil) λk ι=>cS (isKey k x) (.cons (.cons k v) r) (.cons e i)) l
def delD(l x:V):V:=fold .nil (λe r i=>pairD e (.cons e r) λk ι=>cS (isKey k x) r (.cons e i)) l
def w8(l:V):V:=fold .nil (λe ι i=>pairD e .nil λk ι=>.cons k i) l
def qi(l x:V):aE:=match getD l x with
 |some a=>aq|none=>ai
def su:V->aE
 |.nil=>aq|.cons (.cons k a) r=>(match keyOk k,qi r k with
  |true,ai=>su r|a,b=>ai)
 |_=>ai
def encL(l:ab ae):ae->ae:=@cg ae (λι=>ae->ae) (λn=>n) (λc ι i n=>i (aM (bP n 256) c)) l
def good(l:ab ae):aE:=@cg ae (λι=>aE) aq (λc ι i=>cS (bH c 256) i ai) l
def enc(x:Str):ae:=encL x.cps.toList 1
noncomputable def M8:ab ae->aE
 |c::_=>au c 46|[]=>ai
def DY(l:ab ae):aE:=match M8 l with
 |true=>ai|false=>good l
def fA(x:Str):ao ae:=match DY x.cps.toList with
 |true=>aa (enc x)|false=>aw
noncomputable def nats:ab cK->ab ae
 |[]=>[]|c::r=>c.toNat::nats r
end
noncomputable abbrev M9:ae:=388610526637668
noncomputable abbrev M_:ae:=393042999996004
noncomputable abbrev aar:ae:=24145776
noncomputable abbrev Na:ae:=407254929995365
noncomputable abbrev Sl:ae:=1526531973490
noncomputable abbrev aas:ae:=23553396
noncomputable abbrev Nb:ae:=392999765763173
noncomputable abbrev m_lower:ae:=1565238191474
noncomputable abbrev Xw:ae:=6080653678
noncomputable abbrev Gz:ae:=25319071553036771167
def qj(l:V):Rm V:=eB (r5 l) (new (.list l))
noncomputable def Si(l:V):Rm V:=eB (r5 l) (rt (.tup l))
def mkB(l:ab ae):Rm V:=eB (Ai l) (rt (.eN l))
def Cg(l:ab ae):Rm V:=eB (Ai l) (new (.jv l))
noncomputable def Ci:Int->aE
 |.ofNat n=>cf n 1000000|.negSucc a=>ai
noncomputable def orB(a b:aE):aE:=match a with
 |true=>aq|false=>b
noncomputable def imod:Int->ae->Int
 |.ofNat m,n=>.ofNat (m% n)|.negSucc m,n=>Int.subNatNat n (ar (m% n))
noncomputable def GA:ab ae->aE
 |_::_=>aq|[]=>ai
def aat(a b:V):Rm V:=alt (eC a λx=>eC b λy=>rt (.int (Int.add x y)))
 (alt (fB a λx=>fB b λy=>mkB (qH x y))
 (alt (hH a λx=>hH b λy=>eB (Ai (qH x y)) (rt (.str (qH x y))))
 (cb a λι l=>cb b λι k=>qj (tc l k))))
def mulM(a b:V):Rm V:=alt (eC a λx=>eC b λy=>eB (orB (Ci y) (Ci x)) (rt (.int (Int.mul x y))))
 (fB a λx=>ei b λn=>eB (GA x&&cf n 4096&&cf (ji x) 15) (rt (.eN (Gx n x))))
def aau(a b:V):Rm V:=ei a λx=>ei b λy=>eB (cf 1 y&&cf y 1000000) (rt (.int (.ofNat (x/ y))))
def aav(a b:V):Rm V:=eC a λx=>ei b λy=>eB (cf 1 y) (rt (.int (imod x y)))
def aaw(a b:V):Rm V:=ei a λx=>ei b λy=>eB (cf x 1000000000&&cf y 50) (rt (.int (.ofNat (x^y))))
def Xx(op:Operator)(a b:V):Rm V:=match op with
 |.Add=>aat a b|.Sub=>eC a λx=>eC b λy=>rt (.int (Int.sub x y))|.Mult=>mulM a b|.FloorDiv=>aau a b|.Mod=>aav a b|.Pow=>aaw a b|_=>bW
def Xy(a:V):Rm V:=eC a λx=>rt (.int (Int.neg x))
def eq0:V->V->ao aE
 |.bool a,.bool b=>aa (Gy a b)|.int a,.int b=>aa (Z4 a b)|.str a,.str b=>aa (sEq a b)|.eN a,.eN b=>V5 a b|.none,.none=>aa aq|c,d=>aw
noncomputable def Xz(f:V->V->ao aE):V->V->ao aE
 |.nil,.nil=>aa aq|.nil,.cons c d=>aa ai|.cons c d,.nil=>aa ai|.cons a r,.cons b q=>match f a b with
  |some x=>(match Xz f r q with
   |some y=>aa (and x y)|none=>aw)
  |none=>aw
 |c,d=>aw
def eqN:ae->V->V->ao aE
 |0,a,b=>eq0 a b|n+1,a,b=>match a,b with
  |.tup l,.tup k=>Xz (eqN n) l k|a,b=>eq0 a b
def vEq(a b:V):ao aE:=eqN 3 a b
noncomputable def isNil:V->ao aE
 |.nil=>aa aq|.cons a b=>aa ai|_=>aw
def eqM(f:aE->aE)(a b:V):Rm aE:=alt (cb a λι l=>cb b λι k=>opt (isNil k) λt=>eB t (opt (isNil l) λt=>rt (f t)))
 (alt (fu a λι l ι=>fu b λι k ι=>opt (isNil l) λt=>eB t (opt (isNil k) λt=>eB t (rt (f aq))))
 (opt (vEq a b) λt=>rt (f t)))
noncomputable def bLt(x y:ab ae):ao aE:=dG x aw λa r=>dG r (dG y aw λb q=>dG q (aa (bH (bz a 256) (bz b 256))) λι ι=>aw) λι ι=>aw
def ltM(a b:V):Rm aE:=alt (eC a λx=>eC b λy=>rt (V6 x y)) (fB a λx=>fB b λy=>opt (bLt x y) rt)
def notM(c:Rm aE):Rm aE:=b8 c λt=>rt (dU t)
def geM(a b:V):Rm aE:=eC a λx=>eC b λy=>rt (dU (V6 x y))
def isM(f:aE->aE)(a b:V):Rm aE:=alt (ja a (ja b (rt (f aq))))
 (alt (jh a λι ι=>ja b (rt (f ai))) (jh a λn ι=>jh b λm ι=>rt (f (au n m))))
def Nc:V->ab ae->ao aE
 |.nil,b=>aa ai|.cons (.str a) r,x=>(match Nc r x with
  |some t=>aa (or (sEq a x) t)|none=>aw)
 |b,c=>aw
def in1(x:V):V->ao aE
 |.nil=>aa ai|.cons a .nil=>vEq a x|_=>aw
def inM(f:aE->aE)(x c:V):Rm aE:=alt (mn c λl=>hH x λy=>opt (Nc l y) λt=>rt (f t))
 (alt (cb c λι l=>opt (in1 x l) λt=>rt (f t)) (fu c λι l ι=>eB (keyOk x) (rt (f (qi l x)))))
def qI(op:jW)(a b:V):Rm aE:=match op with
 |.Eq=>eqM id a b|.NotEq=>eqM dU a b|.Lt=>ltM a b|.GtE=>geM a b|.Gt=>eC a λx=>eC b λy=>rt (V6 y x)|.LtE=>eC a λx=>eC b λy=>rt (dU (V6 y x))|.Is=>isM id a b|.IsNot=>isM dU a b|.In=>inM id a b|.NotIn=>inM dU a b
def pa(v:V):Rm aE:=alt (vC v rt) (hH v λl=>eB (Ai l) (rt (GA l)))
def XA(a i:V):Rm V:=alt (mn a λl=>ei i λk=>eB (cf k 4096) (opt (z' l k) rt))
 (alt (cb a λι l=>eC i λk=>opt (idxOf (il l) k) λj=>opt (z' l j) rt)
 (alt (fu a λι l ι=>eB (keyOk i) (opt (getD l i) rt))
 (alt (hH a λl=>ei i λk=>eB (Ai l) (opt (Z3 l k) λc=>rt (.str [c])))
 (fB a λl=>ei i λk=>eB (Ai l) (opt (Z3 l k) λc=>rt (.int (.ofNat (bz c 256))))))))
def Kk(a lo h:V):Rm V:=alt (fB a λl=>eB (Ai l) (alt (ja lo (ei h λk=>rt (.eN (ov k l))))
  (alt (ei lo λk=>ja h (rt (.eN (w7 k l)))) (ei lo λi=>ei h λk=>eB (cf i k&&cf k (ji l)) (rt (.eN (ov (k - i) (w7 i l))))))))
 (alt (hH a λl=>ja lo (ei h λk=>eB (cf k (ji l)&&cf k 4096) (rt (.str (ov k l)))))
 (alt (cb a λι l=>alt (ja lo (ei h λk=>qj (A1 k l))) (ei lo λk=>ja h (qj (ud k l))))
 (n5 a λι l=>ei lo λi=>ei h λk=>eB (cf i k&&cf k (ji l)) (Cg (ov (k - i) (w7 i l))))))
def XB(a:V):Rm V:=cb a λι l=>qj (lX l .nil)
noncomputable def aax(b:aE)(ep:ae):ae:=match b with
 |true=>ep|false=>ar ep
noncomputable def XC:ae->V->V->V
 |0,v,.cons a t=>.cons v t|n+1,v,.cons h t=>.cons h (XC n v t)|a,b,l=>l
def XD(a i v:V):Rm jb:=alt (fu a λn l ep=>eB (keyOk i&&cf (il l) 4000) (put n (.dict (DX l i v) (aax (qi l i) ep))))
 (cb a λn l=>ei i λk=>eB (bH k (il l)) (put n (.list (XC k v l))))
def Nd(a lo h v:V):Rm jb:=n5 a λn l=>fB v λb=>ei lo λp=>ei h λq=>
 eB (cf p q&&cf q (ji l)&&au (q - p) (ji b)) (put n (.jv (qH (ov p l) (qH b (w7 q l)))))
noncomputable def V7:V->aE
 |.bi a=>ai|.gH a=>ai|.nil=>ai|.cons a b=>ai|_=>aq
def XE(a:V)(x:ae):Rm V:=o_ a λι ι as=>opt (c0 as x) λv=>eB (V7 v) (rt v)
def V8(as:aX)(x:ae):aE:=match c0 as x with
 |some a=>aq|none=>cf (Xv as) 900
def aay(a:V)(x:ae)(v:V):Rm jb:=o_ a λn c as=>eB (V8 as x) (put n (.inst c (jY as x v)))
noncomputable def ly:V->ao (ab ae)
 |.nil=>aa []|.cons (.int (.ofNat n)) t=>(match bH n 256 with
  |true=>(match ly t with
   |some r=>aa (n::r)|none=>aw)
  |false=>aw)
 |_=>aw
noncomputable def Kl(x:Int):V->ao V
 |.nil=>aa (.cons (.int x) .nil)|.cons (.int y) t=>(match V6 x y with
  |true=>aa (.cons (.int x) (.cons (.int y) t))|false=>(match Kl x t with
   |some r=>aa (.cons (.int y) r)|none=>aw))
 |_=>aw
noncomputable def A2:V->ao V
 |.nil=>aa .nil|.cons (.int x) t=>(match A2 t with
  |some r=>Kl x r|none=>aw)
 |_=>aw
noncomputable def acL:V->ao Int
 |.cons (.int x) .nil=>aa x|_=>aw
def Nf(k:ae)(a:V):Rm V:=match k with
 |0=>alt (mn a λl=>eB (r5 l) (rt (.int (.ofNat (il l))))) (alt (fB a λl=>eB (Ai l) (rt (.int (.ofNat (ji l)))))
  (alt (cb a λι l=>rt (.int (.ofNat (il l)))) (n5 a λι l=>rt (.int (.ofNat (ji l))))))
 |1=>alt (fB a λl=>rt (.eN l)) (alt (n5 a λι l=>rt (.eN l)) (cb a λι l=>opt (ly l) λr=>rt (.eN r)))|2=>fB a Cg|3=>cb a λι l=>opt (acL l) λx=>rt (.int x)|4=>ei a λx=>rt (.int (.ofNat x))|5=>cb a λι l=>qj l|6=>cb a λι l=>Si l|7=>fu a λι l ι=>eB (cf (il l) 60&&su l) (opt (A2 (w8 l)) qj)|8=>eC a λx=>rt (.int x)|_=>bW
noncomputable def XF(x y:Int):Int:=match V6 x y with
 |true=>y|false=>x
noncomputable def IY(v:V):aE:=V.casesOn v ai (λι=>ai) (λι=>ai) (λι=>ai) (λι=>ai) ai (λι ι=>ai) (λι=>ai) (λι=>ai) (λι=>ai) (λι=>ai) (λk=>au k 13) λι=>ai
def call2(k:ae)(a b:V):Rm V:=match k with
 |3=>eC a λx=>eC b λy=>rt (.int (XF x y))|9=>hH a λι=>eB (IY b) (rt (.bool aq))|_=>bW
def Ng(k:ae)(as:ab V):Rm V:=match as with
 |[a]=>Nf k a|[a,b]=>call2 k a b|_=>bW
noncomputable def Nh:V->V
 |.cons a .nil=>.nil|.cons h t=>.cons h (Nh t)|_=>.nil
noncomputable def Ni:V->ao V
 |.cons h .nil=>aa h|.cons a t=>Ni t|_=>aw
def acM:V->V->ao V
 |.cons h .nil,x=>(match vEq h x with
  |some aq=>aa .nil|_=>aw)
 |a,b=>aw
noncomputable def XG(c:ae):ae:=match cf 65 c&&cf c 90 with
 |true=>c+32|false=>c
noncomputable def Sm:ab ae->ab ae
 |[]=>[]|c::r=>XG c::Sm r
noncomputable def ascii:ab ae->aE
 |[]=>aq|c::r=>match bH c 128 with
  |true=>ascii r|false=>ai
def V9:V->ao (ab ae)
 |.cons (.eN a) (.cons (.eN b) .nil)=>aa (qH a b)|_=>aw
noncomputable def DZ{α:Type}(as:ab V)(c:Rm α):Rm α:=match as with
 |[]=>c|_=>bW
noncomputable def ow{α:Type}(as:ab V)(f:V->Rm α):Rm α:=match as with
 |[a]=>f a|_=>bW
noncomputable def ue{α:Type}(as:ab V)(f:V->V->Rm α):Rm α:=match as with
 |[a,b]=>f a b|_=>bW
def putL(n:ae)(l v:V):Rm V:=eB (r5 l) (b8 (put n (.list l)) λι=>rt v)
def IZ(o:V)(as:ab V):Rm V:=cb o λn l=>ow as λa=>putL n (tc l (.cons a .nil)) .none
def I1(o:V)(as:ab V):Rm V:=cb o λn l=>ow as λa=>cb a λι k=>putL n (tc l k) .none
def I2(o:V)(as:ab V):Rm V:=cb o λn l=>ow as λa=>opt (acM l a) λr=>putL n r .none
def V_(o:V)(as:ab V):Rm V:=cb o λn l=>DZ as (opt (Ni l) λv=>putL n (Nh l) v)
def Nj(o:V)(as:ab V):Rm V:=fu o λn ι ep=>DZ as (b8 (put n (.dict .nil (ar ep))) λι=>rt .none)
def V'(o:V)(as:ab V):Rm V:=fu o λn l ep=>ow as λa=>eB (keyOk a) (opt (getD l a) λv=>b8 (put n (.dict (delD l a) (ar ep))) λι=>rt v)
noncomputable def orV(o:ao V)(b:V):V:=match o with
 |some v=>v|none=>b
def aaz(o:V)(as:ab V):Rm V:=fu o λι l ι=>ue as λa b=>eB (keyOk a) (rt (orV (getD l a) b))
def Nk(o:V)(as:ab V):Rm V:=hH o λl=>DZ as (eB (ascii l&&Ai l) (rt (.str (Sm l))))
def I3(o:V)(as:ab V):Rm V:=hH o λl=>ow as λe=>hH e λe=>eB (sEq e [97,115,99,105,105]&&(sEq l [48,48] ||sEq l [50,52])) (rt (.eN l))
def Wa(o:V)(as:ab V):Rm V:=fB o λl=>eB (dU (GA l)) (ow as λb=>cb b λι k=>opt (V9 k) mkB)
def Wb(x:ae)(o:V)(as:Rm (ab V)):Rm V:=
 cS (au x M9) (cb o λι ι=>b8 as (IZ o))
 (cS (au x M_) (cb o λι ι=>b8 as (I1 o))
 (cS (au x Na) (cb o λι ι=>b8 as (I2 o))
 (cS (au x aar) (alt (cb o λι ι=>b8 as (V_ o)) (fu o λι ι ι=>b8 as (V' o)))
 (cS (au x Sl) (fu o λι ι ι=>b8 as (Nj o))
 (cS (au x aas) (fu o λι ι ι=>b8 as (aaz o))
 (cS (au x m_lower) (hH o λι=>b8 as (Nk o))
 (cS (au x Nb) (hH o λι=>b8 as (I3 o))
 (cS (au x Xw) (fB o λι=>b8 as (Wa o)) bW))))))))
inductive It where
 |fix (l:V)
 |kx (n i:ae)
 |RK (n i:ae)
 |Z5 (n ep i sz:ae)
 |zp (n:ae)
noncomputable def td:ae->ae->V
 |0,a=>.nil|n+1,i=>.cons (.int (.ofNat i)) (td n (ar i))
def GB(l:ab ae):V:=@cg ae (λι=>V) .nil (λc ι r=>.cons (.int (.ofNat (bz c 256))) r) l
def Km(v:V):Rm It:=alt (mn v λl=>rt (.fix l)) (alt (cb v λn ι=>rt (.kx n 0))
 (alt (fu v λn l ep=>rt (.Z5 n ep 0 (il l))) (fB v λl=>rt (.fix (GB l)))))
def Nl(k:ae)(as:ab V):Rm It:=match k with
 |10=>ow as λa=>cb a λn ι=>rt (.RK n 0)|11=>ue as λa b=>cb a λn l=>opt (isNil l) λt=>eB t (cb b λι ι=>rt (.zp n))|12=>ow as λa=>ei a λn=>eB (cf n 4096) (rt (.fix (td n 0)))|_=>bW
def oLst{α:Type}(s:St)(n:ae)(f:V->ao α):ao α:=@bl MO (λι=>ao α) aw (λo=>MO.casesOn o f (λι ι=>aw) (λι ι=>aw) (λι=>aw) (λι=>aw)) (s.t.get n)
def oDct{α:Type}(s:St)(n:ae)(f:V->ae->ao α):ao α:=@bl MO (λι=>ao α) aw (λo=>MO.casesOn o (λι=>aw) f (λι ι=>aw) (λι=>aw) (λι=>aw)) (s.t.get n)
def A3(o:ao V)(f:V->V×It):ao (ao (V×It)):=@bl V (λι=>ao (ao (V×It))) (aa aw) (λv=>aa (aa (f v))) o
def fP(s:St):It->ao (ao (V×It))
 |.fix .nil=>aa aw|.fix (.cons h t)=>aa (aa (h,.fix t))|.fix a=>aw|.kx n i=>oLst s n λl=>A3 (z' l i) λv=>(v,.kx n (ar i))|.RK n i=>oLst s n λl=>A3 (z' l i) λv=>(.tup (.cons (.int (.ofNat i)) (.cons v .nil)),.RK n (ar i))|.Z5 n ep i z=>oDct s n λl e=>cS (au ep e&&au (il l) z&&su l) (A3 (z' (w8 l) i) λv=>(v,.Z5 n ep (ar i) z)) aw|.zp n=>oLst s n λl=>@bl aE (λι=>ao (ao (V×It))) aw (λb=>cS b (aa aw) aw) (isNil l)
noncomputable def gT:aX:=[(93279788837989477,.cls 6),(108760262707397035359990672997,.fn 228),(108760262707398723131831117156,.fn 227),(6482616824352715274099,.fn 226),(1659549907034316584676452,.fn 225),(6482616824352748173428,.fn 224),(6482616824352564602221,.fn 223),(25322721970127791462,.fn 222),(25322721970127400820,.fn 221),(25322721970127991406,.fn 220),(94701414977266029,.cls 17),(23520449711366497635,.cls 16),(6851772660385106388336,.fn 215),(1725535131067968708900723,.fn 214),(6869208611324756457331,.fn 213),(104549753729019750,.fn 212),(24458893945197262707,.cls 15),(114644208489740174217372593253,.fn 207),(453887477429875598375150958,.fn 206),(114644208489738756946884389989,.fn 205),(102286988847050598,.fn 204),(399558548877158,.fn 203),(1754053801058574032598131,.fn 202),(1697384176033239831573619,.fn 201),(394078088095076,.fn 200),(441736993553405405482153843,.fn 199),(441736993553405405447678322,.fn 198),(449037773072670599475591027,.fn 196),(6703480079193155466344,.fn 195),(6148481781665723537235,(.int (.ofNat 100000))),(116195194222048166425071482227,.fn 194),(100327547440816484,.fn 193),(26689845850406874725,.fn 192),(447781308838984248903103859,.fn 191),(447781308838965578646119801,.fn 190),(25683852080542872421,.fn 189),(109998268786455730419689354611,.fn 188),(100327547391206766,.fn 187),(28396316468900154845289023237477,.fn 186),(444206551919004162693821811,.fn 185),(111863565712634813514462358628,.fn 184),(6647848525821275762534,.fn 183),(6741093305349913343087,.fn 182),(1739997520299464428843620,.fn 181),(6556623610670016128356,.fn 180),(25542551693873669490,.fn 179),(450199363968853577297978738,.fn 178),(1716090900263577879471474,.fn 177),(109387742099757931088847201650,.fn 176),(1866354799113993786290524559922849138,.fn 175),(26185469059229905524,.fn 173),(427291034240611900302128243,.fn 172),(99486446529769318,.fn 171),(104550797120860006,.fn 170),(6796211458276720797030,.fn 169),(27050993673148787054,.fn 168),(6759969858440444997478,.fn 166),(1735181844561687197215086,.fn 165),(1739997520296157588583539,.fn 164),(6777121539509284987252,.fn 163),(104550840355744110,.fn 162),(103689935636098918,.fn 161),(1912963460071342991221196862110659699,.fn 160),(6740370207211731775334,.fn 159),(26045265976441988472,.fn 158),(1475043552356,.cls 14),(104555251036873576,.fn 156),(6611531498370393990509,.fn 155),(26476218527905705573,.fn 154),(28870426881353579447833874229096,.fn 153),(100883955940552550,.fn 152),(7330697601453894040666471769535097,.fn 148),(110923111206641229787100968051,.fn 147),(26908574984388830564,.fn 146),(411635780248932,.fn 145),(1739830133318840406860915,.fn 143),(26045265967919887728,.fn 142),(29503015487876341062071395642980,.fn 141),(113389296008496169000482729572,.fn 140),(104268265867407206,.fn 139),(111864802918604211243692944996,.fn 138),(6519513382379581697395,.fn 137),(436971886400797786002187634,.fn 136),(104257219128878195,.fn 135),(5442204769,.cls 13),(5527332205,.cls 12),(24374974600589168199,(.int (.ofNat 66))),(358755603334482,(.str [70,73,76,76,69,82])),(1457745390694,.cls 11),(1735275154939230547832678,.fn 117),(1422864041043,(.tup (.cons (.str [115,101,113,117,101,110,116,105,97,108]) (.cons (.str [114,101,108,97,116,105,118,101]) (.cons (.str [105,110,100,101,120,101,100]) .nil))))),(95261100201307237,.cls 10),(1756400995411589044750011508273540197,(.tup (.cons (.str [105,110,112,117,116]) (.cons (.str [105,45,111]) .nil)))),(95250057840389221,.cls 9),(6759969858440444995950,.fn 84),(26908560772458047854,.fn 83),(109685151945711710353190646899,.fn 82),(114008218914147093755934110835,.fn 81),(28237861338482919289285564265587,.fn 80),(29426269259513397665461014196837,.fn 79),(7351059231947669997258193086080371,.fn 78),(1734943114114376957063026,.fn 77),(28079398898102197843772674765939,.fn 76),(29186104042021655994875001533555,.fn 75),(7228892502651627338050460321150067,.fn 74),(433293200380316345354841970,.fn 73),(1716090257639713391866995,.fn 72),(26405665222120008607033103369555,(.eN [125,74,75,76,77,78,79,80,81,82])),(104079244601358712199235913043,(.eN [123,65,66,67,68,69,70,71,72,73])),(103147129773906335479095584115,(.int (.ofNat 45))),(5642147155,(.int (.ofNat 43))),(26486758690857107824365074343283,(.int (.ofNat 48))),(113413474468544768876027670629,.fn 70),(110923059297360962437938245236,.fn 69),(7432665462770550401172970569560165,.fn 68),(1758592132446283811090533,.fn 67),(434544775071659844140363877,.fn 66),(1763479438761833377656420,.fn 65),(6647849927737407534195,.fn 64),(1706902552447212275788131,.fn 63),(1457745129573,.cls 8),(27050993673148788582,.fn 15),(26045266036471589989,.fn 14),(26908560772458045812,.fn 13),(100316569353937260,.fn 4),(110009172362600674136326237812,.fn 3),(24343666,.bi 13),(1590772524901,.bi 12),(24799600,.bi 11),(6593447022513235260517,.bi 10),(1706903273020983629210469,.bi 9),(23686772,.bi 8),(408397475505508,.bi 7),(1599698136165,.bi 6),(6113817460,.bi 5),(23159411,.bi 4),(23945592,.bi 3),(6538899133538275320185,.bi 2),(1522456094067,.bi 1),(23881070,.bi 0),(1697384466233876512334180,.fn 197)]
def gl(n:ae):ao V:=c0 gT n
noncomputable def A4:ab ae:=[388554473960307,1668996004048644846413171,90484,5945520997,25607876935081226873,1678495644609696360263283,100046136922173044,5979075681,391878846018675,100883934735394163,1539367003507,6013152364,101438118374958451,6046705512,101446884469863284,101733844070720883,26045265946226423150,6667588082233980317284,28637072756522928292057112212079,436967052632172793105575527,1706902551032123882037612,111863565603395232715042809188,436967053421976128758314597,1706902552440658205176421,26045266014945502329,436967053782273994518525029,6667588100942841406820,101739320388317812,26045266032058984804,23815545,6096779635,6097036403,6113293172,1565070353772,102572814491543397,1565136939891,401757371855481,6130984037,6130987892,6146846053,6147111028,1730257933549066141134192,402925602104690,403947637797491,403960572896628,1735181843433596808095859,26476773734033289079,113719304348907643446904844142,405038810099316,6180402280,103698667306054245,114017890487881576109679409268,1582366286693,1739941820890875373446515,103708614232007021,6832600537704108749684,104257219128878195,6832601383258565797235,114632066954981444005042808185,104257266138310003,6214874995,1595100195941,1595184083045,1595184344166,6231254894,6231259749,1595302638707,6231715700,408418664673395,408418665133427,104560727069518963,6870217698016752531315,1603958564709,1607952266597,6298296692,1612364473192,105675653485522535]
def yn(l:ab ae)(x:ae):aE:=@cg ae (λι=>aE) ai (λa ι i=>cS (au a x) aq i) l
def XH(x:ae):aE:=yn A4 x
def D0(x:Str):ao ae:=match fA x with
 |some n=>(match XH n with
  |true=>aa n|false=>aw)
 |none=>aw
noncomputable def Nn:Const->ao V
 |.none=>aa .none|.bool b=>aa (.bool b)|.int i=>aa (.int i)|.str s=>aa (.str s.cps.toList)|.bytes b=>aa (.eN (nats b))|_=>aw
def g_(sc:Sc)(x:Str):ao ff:=@cg (Str×ff) (λι=>ao ff) aw (λp ι i=>cS (sEq x.cps.toList p.1.cps.toList) (aa p.2) i) sc
noncomputable def Sn:ae:=6481680900276877746015
noncomputable def So:ae:=27838606313909185553563072618335
noncomputable def odd(n:ae):aE:=au n Sn ||au n So
inductive Nm where
 |loc (n:ae)
 |cst (v:V)
noncomputable def aeF{α a:Type}(o:ao α)(f:α->ao a):ao a:=@bl α (λι=>ao a) aw f o
theorem aeC{α b:Type}{o:ao α}{f:α->ao b}{r:b}(h:aeF o f=aa r):∃a,o=aa a/\f a=aa r:=by
 induction o with
 |none=>exact b6 h|some a=>exact⟨a,rfl,h⟩
noncomputable def findB{α b:Type}(t:α->aE)(f:α->b)(d:b)(l:ab α):b:=@cg α (λι=>b) d (λa ι i=>cS (t a) (f a) i) l
theorem tV{α c:Type}{t:α->aE}{f:α->c}{d:c}{l:ab α}:findB t f d l=d\/∃a,a∈l/\t a=aq/\findB t f d l=f a:=by
 induction l with
 |nil=>exact .inl rfl|cons a l i=>
  induction h:t a with
  |true=>exact .inr ⟨a,ax,h,aY (λb=>cS b (f a) (findB t f d l)) h⟩|false=>
   have e:findB t f d (a::l)=findB t f d l:=aY (λb=>cS b (f a) (findB t f d l)) h;exact e▸i.imp id λz=>z.imp λx z=>⟨aK _ z.1,z.2⟩
noncomputable def cNm(n:ae)(k:ff):ao Nm:=h9 k (aa (.loc n)) (aa (.loc n)) (aa (.loc n)) aw (aeF (gl n) λv=>aa (.cst v))
noncomputable def uf(sc:Sc)(x:Str):ao Nm:=aeF (fA x) λn=>cS (odd n) aw (aeF (g_ sc x) (cNm n))
noncomputable def Cj{α c:Type}(f:α->ao c)(l:ab α):ao (ab c):=@cg α (λι=>ao (ab c)) (aa []) (λa ι i=>aeF (f a) λb=>aeF i λq=>aa (b::q)) l
noncomputable def nmX:aQ->Str
 |.Name x a=>x|_=>⟨#[]⟩
noncomputable def aem:aQ->ab aQ
 |.Tuple l a b=>l|_=>[]
noncomputable def yb:aQ->aQ
 |.Call f a b c=>f|e=>e
noncomputable def Ae:aQ->ab aQ
 |.Call a es b c=>es|_=>[]
noncomputable def clK:aQ->ab Keyword
 |.Call a b ks c=>ks|_=>[]
noncomputable def unX:aQ->aQ
 |.UnaryOp a e b=>e|e=>e
noncomputable def unO:aQ->UnaryOp
 |.UnaryOp o a b=>o|_=>.Not
noncomputable def csX:aQ->Const
 |.Constant c a b=>c|_=>.none
noncomputable def onE{a:Type}(k:ae)(e:aQ)(c d:a):a:=cS (au e.ctorIdx k) c d
noncomputable def aes:UnaryOp->aE
 |.USub=>aq|_=>ai
noncomputable def aen:Const->aE
 |.int i=>Z4 i (.ofNat 1)|_=>ai
noncomputable def XI(e:aQ):aE:=onE 3 e (cS (aes (unO e)) (onE 19 (unX e) (aen (csX (unX e))) ai) ai) ai
def ip(sc:Sc)(x:Str):ao ae:=match g_ sc x with
 |some .local=>fA x|some .cell=>fA x|_=>aw
noncomputable def ug(sc:Sc)(e:aQ):ao ae:=onE 23 e (ip sc (nmX e)) aw
noncomputable def tgN(o:ao ae):ao (ab ae):=@bl ae (λι=>ao (ab ae)) aw (λn=>aa [n]) o
noncomputable def tgT(l:ab aQ)(o:ao (ab ae)):ao (ab ae):=dG l aw λι q=>dG q aw λι ι=>o
noncomputable def dr(sc:Sc)(e:aQ):ao (ab ae):=onE 23 e (tgN (ip sc (nmX e))) (onE 25 e (tgT (aem e) (Cj (ug sc) (aem e))) aw)
noncomputable def aei(o:ao ff):aE:=@bl ff (λι=>aE) ai (λk=>h9 k aq ai ai ai ai) o
noncomputable def aep(o:ao ff):aE:=@bl ff (λι=>aE) ai (λk=>h9 k ai aq ai ai ai) o
noncomputable def aet(xs:ab ae)(o:ao ae):aE:=@bl ae (λι=>aE) aq (yn xs) o
noncomputable def XJ(sc:Sc)(xs:ab ae)(names:Sc)(p:Str×ff):aE:=h9 p.2 (cS (aei (g_ names p.1)) (aet xs (fA p.1)) ai) ai (aep (g_ sc p.1)) aq aq
def allB{α:Type}(f:α->aE)(l:ab α):aE:=@cg α (λι=>aE) aq (λa ι i=>cS (f a) i ai) l
noncomputable def GC(sc:Sc)(xs:ab ae)(s:jB):aE:=ScopeKind.casesOn s.kind ai (allB (XJ sc xs s.names) s.names) ai ai ai ai ai
noncomputable def GD:aQ->aE
 |.ListComp a b c d=>aq|.SetComp a b c d=>aq|.DictComp a b c d e=>aq|_=>ai
noncomputable def acN:aQ->aE
 |.SetComp a b c d=>aq|.DictComp a b c d e=>aq|_=>ai
def r7(f:ae->aE)(l:ab ae):aE:=@cg ae (λι=>aE) aq (λa ι i=>cS (f a) i ai) l
def Aj(l:ab ae):aE:=@cg ae (λι=>aE) aq (λa r i=>cS (r7 (λb=>dU (au a b)) r) i ai) l
noncomputable def nmE(e:aQ):ao ae:=onE 23 e (fA (nmX e)) aw
def Ck:aQ->aQ->aE
 |.Tuple ts a b,.Tuple vs c d=>orB (vs.all (constantsAlone 8)&&!vs.all (Ml 8)) (dU (Aj (ts.filterMap nmE)))|.List a b,c=>aq|a,b=>ai
noncomputable def isStar:aQ->aE
 |.Starred a b=>aq|_=>ai
def fb:ab aQ->aE:=allB λe=>dU (isStar e)
noncomputable def isSet:aQ->aE
 |.Set a b c=>aq|_=>ai
noncomputable def isSlice:aQ->aE
 |.Slice a b c d=>aq|_=>ai
noncomputable def uh:aQ->aE
 |.Call (.Name a b) [] [] c=>aq|_=>ai
noncomputable def XK:aQ->aE
 |.Attribute a b c=>aq|_=>ai
def bindG:ab ae->V->aX->ao aX
 |[],.nil,env=>aa env|x::r,.cons h t,env=>bindG r t (jY env x h)|a,b,c=>aw
def Np(xs:ab ae)(v:V)(env:aX):ao aX:=match xs with
 |[]=>aw|[x]=>aa (jY env x v)|xs=>(match v with
  |.tup l=>bindG xs l env|_=>aw)
def d9(xs:ab ae)(i:It)(v:V)(env:aX):ao aX:=match i,xs with
 |.RK a b,[c]=>aw|a,b=>Np xs v env
noncomputable def Nq(k:ae)(ds:ab V):ao V:=ds.reverse[k]?
noncomputable def hI(ps:ab ae):ab V->ab V->ao aX:=@cg ae (λι=>ab V->ab V->ao aX) (λas ι=>dG as (aa []) λι ι=>aw)
 (λp q i as ds=>dG as (aeF (Nq q.length ds) λd=>aeF (i [] ds) λr=>aa ((p,d)::r)) λa as=>aeF (i as ds) λr=>aa ((p,a)::r)) ps
set_option genInjectivity false in
structure Fn where
 params:ab ae
 lz:ab V
 body:ab cF
 sc:Sc
structure Tab where
 fn:ae->ao Fn
 D1:ae->ae->ao ae
 Wc:ae->ab V->Rm V
structure Rec where
 ev:Sc->aQ->aX->Rm V
 tr:Sc->aQ->aX->Rm aE
 ex:Sc->ab cF->aX->Rm (Fl×aX)
theorem aaA:iA Rec:=⟨⟨λι ι ι ι=>aw,λι ι ι ι=>aw,λι ι ι ι=>aw⟩⟩
noncomputable def hM:ae:=90
section
variable{α:Type}(T:Tab)(r:Rec)
def te(sc:Sc)(re:aX)(l:ab aQ):Rm (ab V):=@cg aQ (λι=>Rm (ab V)) (rt []) (λe ι q=>b8 (r.ev sc e re) λv=>b8 q λvs=>rt (v::vs)) l
noncomputable def yo:Fl×aX->Rm V:=λp=>match p.1 with
 |.next=>rt .none|.ret v=>rt v
def d'(k:ae)(as:ab V):Rm V:=alt (T.Wc k as) (opt (T.fn k) λf=>opt (hI f.params as f.lz) λre=>b8 (r.ex f.sc f.body re) yo)
def XM(c:ae)(as:ab V):Rm V:=opt (T.D1 c Gz) λf=>b8 (new (.inst c [])) λa=>b8 (d' T r f (a::as)) λu=>ja u (rt a)
def w_(f:V)(as:ab V):Rm V:=match f with
 |.fn k=>d' T r k as|.cls c=>XM T r c as|.bi k=>Ng k as|_=>bW
def D3(x:ae)(o:V)(as:Rm (ab V)):Rm V:=alt (o_ o λι c ι=>opt (T.D1 c x) λf=>b8 as λvs=>d' T r f (o::vs)) (Wb x o as)
def mx{α:Type}(c:Rm aE)(a b:Rm α):Rm α:=b8 c λt=>cS t a b
def andM(sc:Sc)(re:aX)(l:ab aQ):Rm V:=@cg aQ (λι=>Rm V) bW (λe r' q=>dG r' (r.ev sc e re) λι ι=>b8 (r.ev sc e re) λv=>mx (pa v) q (rt v)) l
def orM(sc:Sc)(re:aX)(l:ab aQ):Rm V:=@cg aQ (λι=>Rm V) bW (λe r' q=>dG r' (r.ev sc e re) λι ι=>b8 (r.ev sc e re) λv=>mx (pa v) (rt v) q) l
def th(sc:Sc)(re:aX)(l:ab aQ):Rm aE:=@cg aQ (λι=>Rm aE) (rt aq) (λe ι q=>mx (r.tr sc e re) q (rt ai)) l
def orT(sc:Sc)(re:aX)(l:ab aQ):Rm aE:=@cg aQ (λι=>Rm aE) (rt ai) (λe ι q=>mx (r.tr sc e re) (rt aq) q) l
noncomputable def Sp(sc:Sc)(re:aX):ao aQ->Rm V
 |none=>rt .none|some e=>r.ev sc e re
def prs(sc:Sc)(re:aX):ab (ao aQ)->ab aQ->Rm (ab (V×V))
 |[],[]=>rt []|some k::ks,v::vs=>b8 (r.ev sc k re) λa=>b8 (r.ev sc v re) λb=>b8 (prs sc re ks vs) λl=>rt ((a,b)::l)|c,d=>bW
def XN:ab (V×V)->V->ae->ao (V×ae)
 |[],l,ep=>aa (l,ep)|(a,b)::q,l,ep=>(match keyOk a,qi l a with
  |true,ai=>XN q (DX l a b) (ar ep)|c,d=>aw)
def mkD(ks:ab (ao aQ))(vs:ab aQ)(sc:Sc)(re:aX):Rm V:=b8 (prs r sc re ks vs) λl=>opt (XN l .nil 0) λp=>new (.dict p.1 p.2)
noncomputable def aaB(v:V):ao ae:=V.casesOn v aw (λι=>aw) (λι=>aw) (λι=>aw) (λι=>aw) aw (λι ι=>aw) (λι=>aw) (λι=>aw) (λι=>aw) (λι=>aw) aa λι=>aw
def aaC(o:ao Nm):ao ae:=@bl Nm (λι=>ao ae) aw (λn=>Nm.casesOn n (λι=>aw) aaB) o
noncomputable def Cm(sc:Sc)(e:aQ):ao ae:=onE 23 e (aaC (uf sc (nmX e))) aw
def aaD(es:ab aQ)(o:ao ae):ao (ae×ab aQ):=@bl ae (λι=>ao (ae×ab aQ)) aw (λk=>cS (cf 10 k&&cf k 12&&fb es) (aa (k,es)) aw) o
noncomputable def Cn(sc:Sc)(e:aQ):ao (ae×ab aQ):=onE 16 e (dG (clK e) (aaD (Ae e) (Cm sc (yb e))) λι ι=>aw) aw
def la(sc:Sc)(e:aQ)(re:aX):Rm It:=eB (dU (isSet e)) (match Cn sc e with
 |some (k,es)=>b8 (te r sc re es) (Nl k)|none=>b8 (r.ev sc e re) Km)
def Aa{α:Type}(i:It)(z:Rm α)(f:V->It->Rm α):Rm α:=λσ=>match fP σ i with
 |none=>aw|some aw=>z σ|some (aa (v,j))=>f v j σ
def gx(sc:Sc)(xs:ab ae)(f:ab aQ)(a:aX->V->Rm (aX×V))(n:ae):It->aX->V->Rm (aX×V):=@eb (λι=>It->aX->V->Rm (aX×V)) (λι ι ι=>bW)
 (λι h i re acc=>Aa i (rt (re,acc)) λv j=>opt (d9 xs j v re) λre1=>mx (th r sc re1 f) (b8 (a re1 acc) λp=>h j p.1 p.2) (h j re1 acc)) n
def kK(sc:Sc)(elt:aQ)(l:ab bX):aX->V->Rm (aX×V):=@cg bX (λι=>aX->V->Rm (aX×V)) (λre acc=>b8 (r.ev sc elt re) λv=>eB (r5 acc) (rt (re,.cons v acc)))
 (λg ι h re acc=>eB (g.is_async==0) (opt (dr sc g.target) λxs=>b8 (la r sc g.iter re) λi=>gx r sc xs g.ifs h hM i re acc)) l
def jj(xs:ab ae)(re:aX):aX:=@cg (ae×V) (λι=>aX) [] (λp ι q=>cS (yn xs p.1) q (p::q)) re
def D4(sc:Sc):ab bX->ao (ab ae)
 |[]=>aa []|g::q=>(match dr sc g.target,D4 sc q with
  |some a,aa b=>aa (a++b)|c,d=>aw)
structure Co(α:Type) where
 f:Tab->Rec->aX->Rm α
noncomputable def vD{α:Type}:Co α:=⟨λι ι ι=>bW⟩
noncomputable def gA{α:Type}(b:aE)(a:Co α):Co α:=match b with
 |true=>a|false=>vD
noncomputable def oA{α a:Type}(o:ao a)(f:a->Co α):Co α:=match o with
 |some x=>f x|none=>vD
def I4(sc:Sc)(elt:aQ)(gens:ab bX)(scope:jB):Co V:=match gens with
 |[]=>vD|g::q=>oA (D4 scope.names (g::q)) λys=>gA (GC sc ys scope&&(g.is_async==0)) (oA (dr scope.names g.target) λxs=>
   ⟨λι r re=>b8 (la r sc g.iter re) λi=>b8 (gx r scope.names xs g.ifs (kK r scope.names elt q) hM i (jj ys re) .nil) λp=>qj (lX p.2 .nil)⟩)
def nmA:Nm->Co V
 |.loc n=>⟨λι ι re=>opt (c0 re n) rt⟩|.cst v=>⟨λι ι ι=>rt v⟩
noncomputable def GF:aQ->ao (ao aQ×ao aQ×ao aQ)
 |.Slice lo h st a=>aa (lo,h,st)|_=>aw
def slA(sc:Sc)(a:aQ)(lo i st:ao aQ):Co V:=match st with
 |none=>⟨λι r re=>b8 (r.ev sc a re) λv=>b8 (Sp r sc re lo) λl=>b8 (Sp r sc re i) λh=>Kk v l h⟩|some st=>gA (dU lo.isSome&&dU i.isSome&&XI st) ⟨λι r re=>b8 (r.ev sc a re) XB⟩
def XO(sc:Sc)(a i:aQ):Co V:=match GF i with
 |some p=>slA sc a p.1 p.2.1 p.2.2|none=>⟨λι r re=>b8 (r.ev sc a re) λv=>b8 (r.ev sc i re) λk=>XA v k⟩
def Wd(sc:Sc)(f:aQ)(es:ab aQ)(pos:Pos):Co V:=gA (fb es) (match f with
 |.Attribute a x p=>gA (au p.endLine pos.line&&bH es.length 30&&dU (uh a)) (oA (fA x) λk=>⟨λT r re=>b8 (r.ev sc a re) λv=>D3 T r k v (te r sc re es)⟩)|f=>⟨λT r re=>b8 (r.ev sc f re) λv=>b8 (te r sc re es) λvs=>w_ T r v vs⟩)
def Cp(r:Rec)(sc:Sc)(re:aX)(o d:jW)(a b c:aQ)(k:Rm aE->Rm α)(z:Rm α):Rm α:=b8 (r.ev sc a re) λu=>b8 (r.ev sc b re) λv=>mx (qI o u v) (b8 (r.ev sc c re) λw=>k (qI d v w)) z
def toV(c:Rm aE):Rm V:=b8 c λt=>rt (.bool t)
def qk(sc:Sc):aQ->Co V
 |.Constant c e g=>oA (Nn c) λv=>⟨λι ι ι=>rt v⟩|.Name x e=>oA (uf sc x) nmA|.BoolOp op es e=>gA (cf 2 es.length) (match op with
  |.And=>⟨λι r re=>andM r sc re es⟩|.Or=>⟨λι r re=>orM r sc re es⟩)
 |.BinOp a op b e=>⟨λι r re=>b8 (r.ev sc a re) λu=>b8 (r.ev sc b re) λv=>Xx op u v⟩|.UnaryOp op a e=>(match op with
  |.Not=>⟨λι r re=>b8 (r.ev sc a re) λv=>toV (notM (pa v))⟩|.USub=>⟨λι r re=>b8 (r.ev sc a re) Xy⟩|_=>vD)
 |.IfExp c a b e=>⟨λι r re=>mx (r.tr sc c re) (r.ev sc a re) (r.ev sc b re)⟩|.Tuple es e g=>gA (fb es) ⟨λι r re=>b8 (te r sc re es) λvs=>Si (cu vs)⟩|.List es e=>gA (fb es) ⟨λι r re=>b8 (te r sc re es) λvs=>qj (cu vs)⟩|.Dict ks vs e=>gA (cf ks.length 15) ⟨λι r re=>mkD r ks vs sc re⟩|.Compare a ops es e=>(match ops,es with
  |[op],[b]=>gA (dU (isSet b)) ⟨λι r re=>b8 (r.ev sc a re) λu=>b8 (r.ev sc b re) λv=>toV (qI op u v)⟩|[o,d],[b,c]=>gA (dU (isSet c)) ⟨λι r re=>Cp r sc re o d a b c toV (rt (.bool ai))⟩|e,g=>vD)
 |.Attribute a x e=>gA (dU (uh a)) (oA (D0 x) λk=>⟨λι r re=>b8 (r.ev sc a re) λv=>XE v k⟩)|.Subscript a i e=>XO sc a i|.Call f es w pos=>(match w with
  |[]=>Wd sc f es pos|_=>vD)
 |.ListComp elt gens scope e=>I4 sc elt gens scope|_=>vD
def Kn(sc:Sc)(e:aQ):Co aE:=match e with
 |.BoolOp op es f=>(match op with
  |.And=>⟨λι r re=>th r sc re es⟩|.Or=>⟨λι r re=>orT r sc re es⟩)
 |.UnaryOp op a f=>(match op with
  |.Not=>⟨λι r re=>notM (r.tr sc a re)⟩|_=>⟨λι r re=>b8 (r.ev sc e re) pa⟩)
 |.IfExp c a b f=>⟨λι r re=>mx (r.tr sc c re) (r.tr sc a re) (r.tr sc b re)⟩|.Compare a ops es f=>(match ops,es with
  |[op],[b]=>gA (dU (isSet b)) ⟨λι r re=>b8 (r.ev sc a re) λu=>b8 (r.ev sc b re) λv=>qI op u v⟩|[o,d],[b,c]=>gA (dU (isSet c)) ⟨λι r re=>Cp r sc re o d a b c id (rt ai)⟩|f,g=>vD)
 |e=>⟨λι r re=>b8 (r.ev sc e re) pa⟩
def Cq(sc:Sc)(t:aQ)(v:V)(re:aX):Rm aX:=match t with
 |.Name x c=>opt (ip sc x) λk=>rt (jY re k v)|.Attribute o x c=>opt (D0 x) λk=>b8 (r.ev sc o re) λa=>b8 (aay a k v) λι=>rt re|.Subscript o i c=>(match i with
  |.Slice lo b aw c=>b8 (r.ev sc o re) λa=>b8 (Sp r sc re lo) λl=>b8 (Sp r sc re b) λh=>b8 (Nd a l h v) λι=>rt re|i=>eB (dU (isSlice i)) (b8 (r.ev sc o re) λa=>b8 (r.ev sc i re) λk=>b8 (XD a k v) λι=>rt re))
 |_=>bW
def Ak(sc:Sc)(ts:ab aQ):V->aX->Rm aX:=@cg aQ (λι=>V->aX->Rm aX) (λl re=>opt (isNil l) λt=>eB t (rt re))
 (λt ι i l re=>pairD l bW λh q=>b8 (Cq r sc t h re) λre1=>i q re1) ts
def ui(sc:Sc)(t:aQ)(v:V)(re:aX):Rm aX:=match t with
 |.Tuple ts a b=>mn v λl=>Ak r sc ts l re|t=>Cq r sc t v re
noncomputable def gP(p:Fl×aX)(f:aX->Rm (Fl×aX)):Rm (Fl×aX):=Fl.casesOn p.1 (f p.2) (λι=>rt p)
def h6(sc:Sc)(xs:ab ae)(body:ab cF)(n:ae):It->aX->Rm (Fl×aX):=@eb (λι=>It->aX->Rm (Fl×aX)) (λι ι=>bW)
 (λι h i re=>Aa i (rt (.next,re)) λv j=>opt (d9 xs j v re) λre1=>b8 (r.ex sc body re1) λp=>gP p (h j)) n
def I5(sc:Sc)(c:aQ)(body:ab cF)(n:ae):aX->Rm (Fl×aX):=@eb (λι=>aX->Rm (Fl×aX)) (λι=>bW)
 (λι i re=>mx (r.tr sc c re) (b8 (r.ex sc body re) λp=>gP p i) (rt (.next,re))) n
def iq(sc:Sc):cF->Co (Fl×aX)
 |.Expr e d=>gA (dU (GD e)) ⟨λι r re=>b8 (r.ev sc e re) λι=>rt (.next,re)⟩|.Assign ts e d=>(match ts with
  |[t]=>gA (dU (Ck t e)&&dU (acN e)) ⟨λι r re=>b8 (r.ev sc e re) λv=>b8 (ui r sc t v re) λre1=>rt (.next,re1)⟩|_=>vD)
 |.Return e d=>(match e with
  |some e=>⟨λι r re=>b8 (r.ev sc e re) λv=>rt (.ret v,re)⟩|none=>⟨λι ι re=>rt (.ret .none,re)⟩)
 |.If c a b d=>⟨λι r re=>mx (r.tr sc c re) (r.ex sc a re) (r.ex sc b re)⟩|.For t it body l d=>(match l with
  |[]=>oA (dr sc t) λxs=>⟨λι r re=>b8 (la r sc it re) λi=>h6 r sc xs body hM i re⟩|_=>vD)
 |.While c body l d=>(match l with
  |[]=>⟨λι r re=>I5 r sc c body hM re⟩|_=>vD)
 |.Try body h l fin d=>(match h,l,fin with
  |_::_,[],[]=>⟨λι r re=>b8 (r.ex sc body re) λp=>Fl.casesOn p.1 (rt p) (λι=>bW)⟩|d,f,g=>vD)
 |_=>vD
def x3(sc:Sc)(l:ab cF):aX->Rm (Fl×aX):=@cg cF (λι=>aX->Rm (Fl×aX)) (λre=>rt (.next,re)) (λm ι i re=>b8 ((iq sc m).f T r re) λp=>gP p i) l
def Nr:Rec:=⟨λsc e re=>(qk sc e).f T r re,λsc e re=>(Kn sc e).f T r re,x3 T r⟩
end
noncomputable def acO:Rec:=⟨λι ι ι=>bW,λι ι ι=>bW,λι ι ι=>bW⟩
def bg(T:Tab)(n:ae):Rec:=eb acO (λι r=>Nr T r) n
noncomputable def bodyOf(p:bS):ab cF:=p.main.body
noncomputable def pw:bS:=ba
noncomputable def I6:ab cF->Q3
 |.FunctionDef n ps b _ _ _ sc _ _ pos::_=>⟨n,ps,b,sc,pos⟩|_=>⟨⟨#[]⟩,cC,[],cC,cC⟩
noncomputable def dT(i:ae):Q3:=I6 ((bodyOf pw).drop i)
noncomputable def dM(i j:ae):Q3:=match (bodyOf pw).drop i with
 |.ClassDef _ _ _ body _ _ _ _ _ _ _::_=>I6 (body.drop j)|_=>I6 []
set_option genInjectivity false in
structure Row where
 k:ae
 i:ae
 j:ae
 dv:ab V
noncomputable def uj(r:Row):Q3:=match r.j with
 |0=>dT r.i|j+1=>dM r.i j
def fnR(r:Row):Fn:=⟨(uj r).params.args.map λa=>enc a.arg,r.dv,(uj r).body,(uj r).scope.names⟩
noncomputable def qJ:ab Row:=[⟨4,13,0,[.int 0]⟩,⟨13,22,0,[]⟩,⟨14,23,0,[]⟩,⟨15,24,0,[]⟩,⟨60,58,1,[.none,.str [100,105,115,112,108,97,121],.str [116,114,97,105,108,105,110,103],.bool ai,.bool ai,.bool ai]⟩,⟨62,58,3,[]⟩,⟨63,59,0,[]⟩,⟨64,60,0,[]⟩,⟨65,61,0,[]⟩,⟨66,62,0,[]⟩,⟨67,63,0,[]⟩,⟨68,64,0,[]⟩,⟨69,65,0,[]⟩,⟨70,66,0,[]⟩,⟨72,77,0,[]⟩,⟨73,78,0,[]⟩,⟨74,79,0,[]⟩,⟨77,82,0,[]⟩,⟨78,83,0,[]⟩,⟨80,85,0,[]⟩,⟨83,88,0,[]⟩,⟨84,89,0,[]⟩,⟨100,112,1,[.int 0]⟩,⟨107,112,8,[.int 0]⟩,⟨112,116,1,[]⟩,⟨113,116,2,[]⟩,⟨117,119,0,[]⟩,⟨118,120,1,[]⟩,⟨120,120,3,[]⟩,⟨121,120,4,[]⟩,⟨122,120,5,[]⟩,⟨123,120,6,[]⟩,⟨124,120,7,[]⟩,⟨125,120,8,[]⟩,⟨128,124,1,[]⟩,⟨129,124,2,[]⟩,⟨130,124,3,[]⟩,⟨133,125,1,[]⟩,⟨135,126,0,[]⟩,⟨136,127,0,[]⟩,⟨137,128,0,[]⟩,⟨138,129,0,[]⟩,⟨139,130,0,[]⟩,⟨140,131,0,[]⟩,⟨141,132,0,[]⟩,⟨142,133,0,[]⟩,⟨143,134,0,[]⟩,⟨146,138,0,[]⟩,⟨147,139,0,[]⟩,⟨148,140,0,[]⟩,⟨152,147,0,[]⟩,⟨153,148,0,[]⟩,⟨154,149,0,[]⟩,⟨155,150,0,[]⟩,⟨156,151,0,[]⟩,⟨157,153,1,[]⟩,⟨158,154,0,[]⟩,⟨159,155,0,[]⟩,⟨160,156,0,[]⟩,⟨161,157,0,[]⟩,⟨162,158,0,[]⟩,⟨163,159,0,[]⟩,⟨164,160,0,[]⟩,⟨165,161,0,[]⟩,⟨166,162,0,[]⟩,⟨169,166,0,[]⟩,⟨170,167,0,[]⟩,⟨171,168,0,[]⟩,⟨172,169,0,[]⟩,⟨175,172,0,[]⟩,⟨176,173,0,[]⟩,⟨177,174,0,[]⟩,⟨178,175,0,[]⟩,⟨179,176,0,[]⟩,⟨180,177,0,[]⟩,⟨181,178,0,[]⟩,⟨183,180,0,[]⟩,⟨184,181,0,[]⟩,⟨185,182,0,[]⟩,⟨186,183,0,[]⟩,⟨187,184,0,[]⟩,⟨188,185,0,[]⟩,⟨189,186,0,[]⟩,⟨191,188,0,[]⟩,⟨192,189,0,[]⟩,⟨193,190,0,[]⟩,⟨194,191,0,[]⟩,⟨195,194,0,[]⟩,⟨196,195,0,[]⟩,⟨197,196,0,[]⟩,⟨198,197,0,[]⟩,⟨199,198,0,[]⟩,⟨200,199,0,[]⟩,⟨201,200,0,[]⟩,⟨202,201,0,[]⟩,⟨203,202,0,[]⟩,⟨204,203,0,[]⟩,⟨205,204,0,[]⟩,⟨206,205,0,[]⟩,⟨207,206,0,[]⟩,⟨208,207,1,[.int 100000]⟩,⟨209,207,2,[]⟩,⟨210,207,3,[]⟩,⟨212,208,0,[]⟩,⟨213,209,0,[]⟩,⟨214,210,0,[]⟩,⟨215,211,0,[]⟩,⟨216,213,1,[]⟩,⟨218,215,1,[.bool ai]⟩,⟨220,217,0,[]⟩,⟨221,218,0,[]⟩,⟨222,219,0,[]⟩,⟨223,220,0,[]⟩,⟨224,221,0,[]⟩,⟨225,222,0,[]⟩,⟨226,223,0,[]⟩,⟨227,224,0,[]⟩,⟨228,225,0,[]⟩,⟨229,226,0,[]⟩]
noncomputable def Nt(l:ab Row)(k:ae):ao Row:=findB (λr=>au r.k k) aa aw l
def Z6(k:ae):ao Fn:=match Nt qJ k with
 |some r=>aa (fnR r)|none=>aw
noncomputable def uk:ab (ae×ab (ae×ae)):=[(8,[(1753942326271747681248101,62),(25319071553036771167,60)]),(9,[(1612532249701,107),(25319071553036771167,100)]),(10,[(6832600537704142567540,113),(25319071553036771167,112)]),(11,[(104268300210368358,125),(404003505464676,124),(23880057,123),(1522119698798,122),(1678495649108872354819942,121),(102291339397263206,120),(25319071553036771167,118)]),(12,[(1526583357044,130),(23159908,129),(25319071553036771167,128)]),(13,[(25319071553036771167,133)]),(14,[(25319071553036771167,157)]),(15,[(114032477489699711339098039666,210),(104815805226510702,209),(25319071553036771167,208)]),(16,[(25319071553036771167,216)]),(17,[(25319071553036771167,218)])]
noncomputable def lkO(l:ab (ae×ae))(x:ae):ao ae:=findB (λp=>au p.1 x) (λp=>aa p.2) aw l
noncomputable def sv(l:ab (ae×ab (ae×ae)))(d x:ae):ao ae:=findB (λp=>au p.1 d) (λp=>lkO p.2 x) aw l
def gh(o:ae->ab V->Rm V):Tab:=⟨Z6,sv uk,o⟩
noncomputable def kwV:ab Keyword->aQ
 |k::_=>k.value|[]=>.Tuple [] cC cC
def iM(l:ab cF):cF:=dG l (.Pass cC) λs ι=>s
set_option backward.match.sparseCases false in
noncomputable def vE:cF->ab cF
 |.For a c b d e=>b|.Try b a c d e=>b|_=>[]
set_option backward.match.sparseCases false in
noncomputable def i5:cF->aQ
 |.Expr e a=>e|.Assign a e b=>e|.Return (aa e) a=>e|.For a e b c d=>e|_=>.Tuple [] cC cC
noncomputable def Ui:aQ->Pos
 |.Call a b c p=>p|_=>cC
noncomputable def Uj:aQ->Pos
 |.Name a p=>p|_=>cC
noncomputable def Y':cF->ab cF
 |.If b a c d=>a|_=>[]
noncomputable def yg:cF->ab cF
 |.If a c b d=>b|_=>[]
noncomputable def JU:cF->aQ
 |.If c a b d=>c|.While c a b d=>c|_=>.Tuple [] cC cC
noncomputable def eD:aQ:=kwV (clK (i5 (iM (vE (iM ((dT 195).body.drop 1))))))
noncomputable def acP:aQ->Pos
 |.Lambda a b c p=>p|_=>cC
noncomputable def n6:Pos:=acP eD
noncomputable def yp:Str:=(dT 195).name++aL ".<locals>.<lambda>"
noncomputable abbrev A5:ae:=1550
noncomputable abbrev t5:ae:=1546
set_option backward.match.sparseCases true
abbrev pb:OpenRow:=PySem.W.OpenLaw.row g7
def XT:(Str->ao ag)->bJ->Prop:=λι ι=>True
noncomputable def Ko:Q3:=I6 ((bodyOf pw).drop 226)
theorem aaE:defOf H.Internal.ym pb.name=aa (Ko,[]):=⋯
theorem hp_:pb.prog.theDef pb.name=aa (Ko.params,Ko.body,Ko.scope):=⋯
theorem hk_:kwWritten? Ko.params.kwonlyargs Ko.params.kw_defaults=aa []:=⋯
theorem acQ:chainsOk H.Internal.ym=aq:=⋯
theorem acR:opensWell pb.prog=aq:=⋯
theorem acS:(frees pb.toRowW&&pb.within.isEmpty)=aq:=⋯
theorem hb_:pb.prog.bare:=⟨rfl,rfl,rfl,rfl,rfl,by decide+kernel⟩
theorem hw_:pb.toRowW.promised:=by w_witness2
theorem ok_:(chainsOk H.Internal.ym&&opensWell pb.prog&&(frees pb.toRowW&&pb.within.isEmpty))=aq:=by
 rw[acQ,acR,acS];rfl
section
set_option genInjectivity false in
structure Ctx where
 h0:bJ
 fv:ae->ag
 jV:ae->aB
 h_:ae->aB
 Gd:ae->ag
abbrev fO:=ab (aB×aB)
def adr(ρ:fO)(a:aB):Prop:=a=t5\/∃p∈ρ,a=p.1\/a=p.2
def yq(ρ:fO)(a:aB):Prop:=adr (ρ.drop 1) a
noncomputable def fm(_:Ctx)(l:ab ae):ab cK:=l.map bR
set_option backward.match.sparseCases false in
def w'(v:V):Prop:=match v with
 |.nil=>True|.cons a t=>w' t|_=>jD
inductive aaF(A:ag->Prop)(B:ab ag->Prop)(vs:ab ag):Prop
 |mk (u:ag) (us:ab ag) (eq:vs=u::us) (a:A u) (b:B us)
inductive acT(ρ:fO)(h:bJ)(l:V)(v:ag)(B:ab ag->Prop):Prop
 |mk (a:aB) (us:ab ag) (eq:v=.ref a) (tup:h.IsTuple a us.toArray) (off: ¬adr ρ a) (lst:w' l) (rep:B us)
inductive acU(ρ:fO)(n:ae)(v:ag):Prop
 |mk (p:aB×aB) (at_:ρ[n]? =aa p) (eq:v=.ref p.1)
def pd(X:Ctx)(O:ae->ag->Prop)(ρ:fO)(h:bJ):V->ag->ab ag->Prop
 |.none,v,c=>v=.none|.bool b,v,c=>v=.bool b|.int i,v,c=>∃t,v=.int i t|.str s,v,c=>∃t,v=.str ⟨s.toArray⟩ t|.eN l,v,c=>∃t,v=.bytes (fm X l).toArray t|.nil,c,vs=>vs=[]|.cons a r,c,vs=>aaF (λu=>pd X O ρ h a u []) (λus=>pd X O ρ h r .none us) vs|.tup l,v,c=>acT ρ h l v λus=>pd X O ρ h l .none us|.a4 n,v,c=>acU ρ n v|.fn k,v,c=>v=.ref (X.jV k)|.cls k,v,c=>v=.ref (X.h_ k)|.bi k,v,c=>v=X.Gd k|.gH k,v,c=>O k v
abbrev Rep(X:Ctx)(ρ:fO)(h:bJ):V->ag->ab ag->Prop:=pd X (λk v=>v=X.fv k) ρ h
abbrev iU(X:Ctx)(ρ:fO)(h:bJ)(x:V)(v:ag):Prop:=Rep X ρ h x v []
structure gi(X:Ctx)(ρ:fO)(h:bJ)(x:V)(vs:ab ag):Prop where
 lst:w' x
 rep:Rep X ρ h x .none vs
structure bY(ρ:fO)(h:bJ)(jk:fO)(h' :bJ)(xs:ab aB):Prop where
 pre:∃q,jk=ρ++q/\∀p∈q,h.get? p.1=aw/\h.get? p.2=aw
 mq:∀b o,h.get? b=aa o->¬yq ρ b->b∉xs->h'.get? b=aa o
 live:∀b o,h.get? b=aa o->∃o',h'.get? b=aa o'
theorem kM:adr (ρ++q) a↔adr ρ a\/adr q a:=by
 constructor
 ·rintro(z|⟨p,h,e⟩)
  ·exact .inl (.inl z)
  ·exact(bE.mp h).elim (λh=>.inl (.inr ⟨p,h,e⟩)) λh=>.inr (.inr ⟨p,h,e⟩)
 ·rintro((z|⟨p,h,e⟩)|(z|⟨p,h,e⟩))
  ·exact .inl z
  ·exact .inr ⟨p,b0 _ h,e⟩
  ·exact .inl z
  ·exact .inr ⟨p,bo _ h,e⟩
theorem Nu{ρ:fO}{n:ae}{p:aB×aB}(e:ρ[n]? =aa p):adr ρ p.1/\adr ρ p.2:=
 ⟨.inr ⟨p,aA e,.inl rfl⟩,.inr ⟨p,aA e,.inr rfl⟩⟩
section
variable{ρ jk I7:fO}{h h' Sq:bJ}{xs ys:ab aB}
theorem yq.adr(h:yq ρ a):adr ρ a:=h.imp id λ⟨p,z⟩=>⟨p,s6 z.1,z.2⟩
theorem I8{n:ae}{p:aB×aB}(l:1<=n)(e:ρ[n]? =aa p):yq ρ p.1/\yq ρ p.2:=by
 have:(ρ.drop 1)[n - 1]? =aa p:=by rw[nY,vo l];exact e
 exact Nu this
theorem bY.keep(g:bY ρ h jk h' xs)(b:aB)(o:Obj)(e:h.get? b=aa o)(n: ¬adr ρ b)(x:b∉xs):h'.get? b=aa o:=g.mq b o e (λq=>n q.adr) x
theorem bY.Sr(g:bY ρ h jk h' xs)(hb:h.get? b=aa o)(n: ¬yq ρ b): ¬yq jk b:=by
 obtain⟨q,rfl,a⟩:=g.pre;unfold yq at n⊢;rw[ab.drop_append,kM];rintro(e|e|⟨p,hp,z⟩)
 ·exact n e
 ·exact n (.inl e)
 ·have hp:=s6 hp
  clear n;rcases z with rfl|rfl
  ·exact b6 ((a p hp).1.symm.trans hb)
  ·exact b6 ((a p hp).2.symm.trans hb)
theorem bY.refl(ρ:fO)(h:bJ)(xs:ab aB):bY ρ h ρ h xs:=⟨⟨[],(dj _).symm,λι hp=>sr hp⟩,λι ι e ι ι=>e,λι o e=>⟨o,e⟩⟩
theorem bY.off(g:bY ρ h jk h' xs)(hb:h.get? b=aa o)(n: ¬adr ρ b): ¬adr jk b:=by
 obtain⟨q,rfl,a⟩:=g.pre;rw[kM];rintro(e|e|⟨p,hp,rfl|rfl⟩)
 ·exact n e
 ·exact n (.inl e)
 ·exact b6 ((a p hp).1.symm.trans hb)
 ·exact b6 ((a p hp).2.symm.trans hb)
theorem gI(l:∀b o,h.get? b=aa o->∃o',h'.get? b=aa o')(c:h'.get? a=aw):h.get? a=aw:=by
 induction e:h.get? a with
 |none=>rfl|some o=>obtain⟨o',d⟩:=l a o e;exact b6 (c.symm.trans d)
theorem bY.trans(x:bY ρ h jk h' xs)(y:bY jk h' I7 Sq xs):bY ρ h I7 Sq xs:=by
 refine⟨?_,λb o e n c=>y.mq b o (x.mq b o e n c) (x.Sr e n) c,λb o e=>let ⟨o',d⟩:=x.live b o e;y.live b o' d⟩
 refine ck λk=>?_;obtain⟨q,rfl,f⟩:=x.pre;obtain⟨g,rfl,a⟩:=y.pre;refine k ?_;exact⟨q++g,eo ..,λp hp=>(bE.mp hp).elim (f p) λe=>⟨gI x.live (a p e).1,gI x.live (a p e).2⟩⟩
theorem bY.weaken(g:bY ρ h jk h' xs)(s:∀a∈xs,a∈ys):bY ρ h jk h' ys:=⟨g.pre,λb o e n x=>g.mq b o e n λq=>x (s b q),g.live⟩
theorem bY.wk(g:bY ρ h jk h' []):bY ρ h jk h' ys:=g.weaken λι q=>sr q
theorem bY.get(g:bY ρ h jk h' xs){n:ae}{p:aB×aB}(e:ρ[n]? =aa p):jk[n]? =aa p:=by
 obtain⟨q,rfl,_⟩:=g.pre;exact(ct (aV.mp e).1)▸e
theorem bY.drop(a:bY ρ h jk h' xs)(b:bY jk h' I7 Sq ys)(cP:∀x∈ys,h.get? x=aw):bY ρ h I7 Sq xs:=by
 have c:=(a.weaken λx d=>b0 ys d).trans (b.weaken λx d=>bo xs d);exact⟨c.pre,λb o e n f=>c.mq b o e n λq=>(bE.mp q).elim f λq=>(b6 ((cP b q).symm.trans e)),c.live⟩
theorem bY.heap(l:∀b o,h.get? b=aa o->∃o',h'.get? b=aa o')(k:∀b o,b∉xs->¬yq ρ b->h.get? b=aa o->h'.get? b=aa o):bY ρ h ρ h' xs:=
 ⟨⟨[],(dj _).symm,λι hp=>sr hp⟩,λb o e n x=>k b o x n e,l⟩
theorem bY.old(k:∀b o,h.get? b=aa o->h'.get? b=aa o):bY ρ h ρ h' xs:=bY.heap (λb o e=>⟨o,k b o e⟩) λb o ι ι e=>k b o e
end
section
variable{X:Ctx}{O O' :ae->ag->Prop}{ρ jk:fO}{h h' :bJ}{xs:ab aB}
theorem pd.gen(L:∀(n:ae)(p:aB×aB),ρ[n]? =aa p->jk[n]? =aa p)(hT:∀a us,h.IsTuple a us->¬adr ρ a->h'.IsTuple a us/\¬adr jk a)(d:∀k v,O k v->O' k v):∀{v:ag}{vs:ab ag},pd X O ρ h x v vs->pd X O' jk h' x v vs:=by
 induction x with
 |cons a r i c=>intro v vs z;obtain⟨u,us,e,a,b⟩:=z;exact⟨u,us,e,i a,c b⟩|tup l f=>intro v vs z;obtain⟨a,us,e,t,n,z,l⟩:=z;exact⟨a,us,e,(hT a _ t n).1,(hT a _ t n).2,z,f l⟩|a4 n=>intro v vs z;obtain⟨p,e1,e2⟩:=z;exact⟨p,L _ p e1,e2⟩|gH k=>intro v vs e;exact d _ _ e|_=>intro v vs e;exact e
def NT(h:bJ)(xs:ab aB):Prop:=∀a∈xs,∀us,¬h.IsTuple a us
theorem NT.nil:NT h []:=λι q=>sr q
theorem pd.aaG(g:bY ρ h jk h' xs)(c:NT h xs)(d:∀k v,O k v->O' k v){x:V}{v:ag}{vs:ab ag}:pd X O ρ h x v vs->pd X O' jk h' x v vs:=
 pd.gen (λι ι=>g.get) (λa us t n=>have ⟨o,b,r⟩:=t;⟨⟨o,g.keep a o b n λq=>c a q us t,r⟩,g.off b n⟩) d
theorem Rep.mono(g:bY ρ h jk h' xs)(a:NT h xs):Rep X ρ h x v vs->Rep X jk h' x v vs:=pd.aaG g a λι ι e=>e
theorem gi.mono(g:bY ρ h jk h' xs)(a:NT h xs)(r:gi X ρ h x vs):gi X jk h' x vs:=⟨r.lst,r.rep.mono g a⟩
end
set_option backward.match.sparseCases false in
def D5(P:bZ):V->aZ->Prop
 |.str s,e=>e.hash=(if (jc s.toArray).cps.isEmpty=aq then 0 else reduceHash (P.strHash s.toArray))/\∃t,e.key=.str ⟨s.toArray⟩ t
 |.int i,e=>e.hash=hashInt i/\∃t,e.key=.int i t|a,b=>jD
inductive eJ(R:V->ag->ab ag->Prop)(P:bZ):V->ab aZ->Prop where
 |nil:eJ R P .nil []
 |cons {k v r:V}{e:aZ}{q:ab aZ} (a:D5 P k e) (b:R v e.val []) (c:eJ R P r q):eJ R P (.cons (.cons k v) r) (e::q)
def xa(R:V->ag->ab ag->Prop)(as:aX)(m:Str->ao ag):Prop:=
 ∀x n,fA x=aa n->match c0 as n with
  |some v=>∃u,m x=aa u/\R v u []|none=>m x=aw
noncomputable def ko(w c m:ae):ae×ae×ae:=
 let a:=if w=0 then c+1 else c
 let b:=if w=0 then(10*a+10093)^9/ 4 else w
 (b% m,b/ m,a)
def ti:ae->ae->ab (ae×Int)->Prop
 |a,b,[]=>True|w,c,(m,r)::q=>.ofNat (ko w c m).1=r/\ti (ko w c m).2.1 (ko w c m).2.2 q
inductive acV(X:Ctx)(ρ:fO)(h:bJ)(p:aB×aB)(l:V):Prop
 |mk (two:p.2=p.1) (vs:ab ag) (n:ae) (len:vs.length<=4096) (obj:h.get? p.1=aa {cls:=.type "list",data:=.seq vs.toArray n}) (lst:w' l) (rep:Rep X ρ h l .none vs)
inductive acW(X:Ctx)(P:bZ)(ρ:fO)(h:bJ)(p:aB×aB)(l:V)(ep:ae):Prop
 |mk (two:p.2=p.1) (es:ab aZ) (len:es.length<=4096) (obj:h.get? p.1=aa {cls:=.type "dict",data:=.dict es.toArray ep}) (rep:eJ (Rep X ρ h) P l es)
inductive acX(h:bJ)(a:aB)(as:aX):Prop
 |mk (od:Obj) (es:Array aZ) (n:ae) (obj:h.get? a=aa od) (data:od.data=.dict es n/\es.size<=as.length/\es.size<=1000)
inductive acY(X:Ctx)(ρ:fO)(h:bJ)(p:aB×aB)(c:ae)(as:aX):Prop
 |mk (ne:p.2≠p.1) (m:Str->ao ag) (obj:h.get? p.1=aa ⟨.ref (X.h_ c),aa p.2,.plain,#[]⟩) (We:acX h p.2 as) (ns:h.Ns p.2 m) (ok:∀k v,c0 as k=aa v->XH k=aq) (rep:xa (Rep X ρ h) as m)
def ia(X:Ctx)(P:bZ)(ρ:fO)(h:bJ)(p:aB×aB):MO->Prop
 |.list l=>acV X ρ h p l|.dict l ep=>acW X P ρ h p l ep|.inst c as=>acY X ρ h p c as|.jv l=>p.2=p.1/\l.length<=4096/\h.get? p.1=aa {cls:=.type "bytearray",data:=.bytearray (fm X l).toArray 0}|.jg t=>p.2=p.1/\∃vs n,h.get? p.1=aa {cls:=.type "list",data:=.seq vs n}/\∃(w c:ae)(t1 t2:_),vs= #[.int (.ofNat w) t1,.int (.ofNat c) t2]/\c+t.length<=40/\ti w c t
section
variable{X:Ctx}{P:bZ}{ρ jk:fO}{h h' :bJ}{σ:St}
theorem eJ.map{R c:V->ag->ab ag->Prop}(e:∀{x v vs},R x v vs->c x v vs)(d:eJ R P l es):eJ c P l es:=by
 induction d with
 |nil=>exact .nil|cons a b f i=>exact .cons a (e b) i
theorem xa.map{R a:V->ag->ab ag->Prop}(b:∀{x v vs},R x v vs->a x v vs){m:Str->ao ag}(r:xa R as m):xa a as m:=λx n e=>by
 have:=r x n e
 induction q:c0 as n with
 |none=>rw[q]at this;exact this|some v=>rw[q]at this;exact this.imp λu z=>⟨z.1,b z.2⟩
theorem ia.map{p:aB×aB}(R:∀{x v vs},Rep X ρ h x v vs->Rep X jk h' x v vs)(e1:∀x,h.get? p.1=aa x->h'.get? p.1=aa x)(e2:∀x,h.get? p.2=aa x->h'.get? p.2=aa x)(r:ia X P ρ h p o):ia X P jk h' p o:=by
 induction o with
 |list=>
  refine ck λk=>?_;obtain⟨a,vs,n,z,b,c,d⟩:=r;refine k ?_;exact⟨a,vs,n,z,e1 _ b,c,R d⟩
 |dict=>
  refine ck λk=>?_;obtain⟨a,es,z,b,c⟩:=r;refine k ?_;exact⟨a,es,z,e1 _ b,c.map R⟩
 |inst=>
  refine ck λk=>?_;obtain⟨a,m,b,⟨od,es,n,c,f⟩,d,ok,e⟩:=r;refine k ?_;exact⟨a,m,e1 _ b,⟨od,es,n,e2 _ c,f⟩,d.at' e2,ok,e.map R⟩
 |jv=>exact⟨r.1,r.2.1,e1 _ r.2.2⟩|jg=>
  refine ck λk=>?_;obtain⟨a,vs,n,b,z⟩:=r;refine k ?_;exact⟨a,vs,n,e1 _ b,z⟩
end
def jl(o:Obj):Prop:=(∃vs,o.data=.fields vs)/\(o.cls=.type "code"\/o.cls=.none)
def CK(h h' :bJ):Prop:=∀b o,h.get? b=aa o->jl o->h'.get? b=aa o
def Cc(h:bJ)(a:aB):Prop:=∃o,h.get? a=aa o/\(∃vs,o.data=.fields vs)/\o.cls=.type "code"
def vF(h:bJ):Prop:=∃ps,h.IsCode A5 t5 ps/\h.TableAt A5 t5 ps/\(codeAmong n6 ps.toList=aw\/∃c,codeAmong n6 ps.toList=aa (.ref c)/\h.CodeRec (.ref c) yp/\Cc h c)
theorem Cc.mono(x:Cc h a)(k:CK h h'):Cc h' a:=x.imp λo z=>⟨k _ _ z.1 ⟨z.2.1,.inl z.2.2⟩,z.2⟩
def icF(c P:aB)(ps:Array ag)(x y:ao Obj):Prop:=
 ∃o vs i a f tg n t b op,x=aa o/\o.data=.fields vs/\vs.getD 11 .none=.ref P/\vs.getD 18 .none=.str i a/\
  vs.getD 7 .none=.int f tg/\vs.getD 9 .none=.bool n/\vs.getD 10 .none=.int t b/\y=aa op/\op.data=.fields ps/\TriplesOk ps.toList/\c≠P
def tbF(P:aB)(ps:Array ag)(x y:ao Obj):Prop:=(∃o vs,x=aa o/\o.cls=.type "code"/\o.data=.fields vs/\vs[11]? =aa (.ref P))/\y=aa {cls:=.none,data:=.fields ps}
theorem CK.same(k:CK h h')(x:∃o,h.get? a=aa o/\jl o):h.get? a=h'.get? a:=by
 obtain⟨o,e,l⟩:=x;exact e.trans (k _ _ e l).symm
theorem Cc.aey(x:Cc h a):∃o,h.get? a=aa o/\jl o:=x.imp λo z=>⟨z.1,z.2.1,.inl z.2.2⟩
theorem vF.mono(x:vF h)(k:CK h h'):vF h' :=by
 refine ck λa=>?_;obtain⟨ps,i,b,z⟩:=x;have e1:h.get? A5=h'.get? A5:=k.same (b.1.imp λo z=>z.elim λvs z=>⟨z.1,⟨vs,z.2.2.1⟩,.inl z.2.1⟩);have e2:h.get? t5=h'.get? t5:=k.same ⟨_,b.2,⟨_,rfl⟩,.inr rfl⟩;have i:icF A5 t5 ps (h.get? A5) (h.get? t5):=i;have b:tbF t5 ps (h.get? A5) (h.get? t5):=b;refine a ?_;refine⟨ps,show icF A5 t5 ps (h'.get? A5) (h'.get? t5) from e2▸e1▸i,show tbF t5 ps (h'.get? A5) (h'.get? t5) from e2▸e1▸b,z.imp id λz=>z.imp λc z=>⟨z.1,?_,z.2.2.mono k⟩⟩
 refine ck λa=>?_;have e:=k.same z.2.2.aey;obtain⟨d,o',v,t,q,g,s⟩:=z.2.1;injection q with q;subst q
 exact a ⟨c,o',v,t,rfl,e▸g,s⟩
theorem eO{h:bJ}{o:Obj}(b:h.get? a=aa o)(d:∀vs,o.data≠.fields vs):∀o',h.get? a=aa o'->¬jl o' :=λo' e c=>by
 obtain rfl:=af (b.symm.trans e);exact d _ c.1.choose_spec
theorem CK.of(k:∀b o,h.get? b=aa o->h'.get? b=aa o):CK h h' :=λb o e ι=>k b o e
def NC(h:bJ)(p:aB×aB):Prop:=(∀o,h.get? p.1=aa o->¬jl o)/\∀o,h.get? p.2=aa o->¬jl o
theorem NC.same(c:NC h p)(l:(∃o,h.get? p.1=aa o)/\∃o,h.get? p.2=aa o)(k:(∀x,h.get? p.1=aa x->h'.get? p.1=aa x)/\∀x,h.get? p.2=aa x->h'.get? p.2=aa x):NC h' p:=by
 obtain⟨⟨a,e1⟩,b,e2⟩:=l;refine⟨λo e=>?_,λo e=>?_⟩
 ·cases (k.1 _ e1).symm.trans e;exact c.1 _ e1
 ·cases (k.2 _ e2).symm.trans e;exact c.2 _ e2
inductive acZ(X:Ctx)(P:bZ)(ρ:fO)(h:bJ)(n:ae)(o:MO):Prop
 |mk (p:aB×aB) (at_:ρ[n]? =aa p) (rep:ia X P ρ h p o)
structure h5(X:Ctx)(P:bZ)(ρ:fO)(σ:St)(h:bJ):Prop where
 base:∀b o,X.h0.get? b=aa o->h.get? b=aa o
 len:ρ.length=σ.n
 above:∀p∈ρ,(X.h0.get? p.1=aw/\X.h0.get? p.2=aw)/\((∃o,h.get? p.1=aa o)/\∃o,h.get? p.2=aa o)
 apart:ρ.Pairwise λp q=>p.1≠q.1/\p.1≠q.2/\p.2≠q.1/\p.2≠q.2
 nt:∀p∈ρ,∀us,¬h.IsTuple p.1 us/\¬h.IsTuple p.2 us
 objs:∀n o,σ.t.get n=aa o->acZ X P ρ h n o
 pl:vF h
 x4:∀p∈ρ,(p.1≠t5/\p.2≠t5)/\NC h p
theorem jm{h h':bJ}(l:∃o,h.get? a=aa o)(k:∀x,h.get? a=aa x->h'.get? a=aa x)(t:h'.IsTuple a us):h.IsTuple a us:=by
 refine ck λb=>?_;obtain⟨o,e⟩:=l;obtain⟨o',c,r⟩:=t
 cases (k o e).symm.trans c
 refine b ?_;exact⟨o,e,r⟩
theorem I9{h:bJ}{o:Obj}(b:h.get? I=aa o)(e:∀vs c,o.data≠.seq vs c)(us:Array ag): ¬h.IsTuple I us:=λ⟨o',a,_,_,d⟩=>by obtain rfl:=af (b.symm.trans a);exact e _ _ d
theorem ia.aaH{h:bJ}{p:aB×aB}(r:ia X P ρ h p o)(us:Array ag): ¬h.IsTuple p.1 us/\¬h.IsTuple p.2 us:=by
 have one:∀{a:aB}{x:Obj},h.get? a=aa x->x.cls≠.type "tuple"->¬h.IsTuple a us:=λd ne⟨o,e,k,_⟩=>by obtain rfl:=af (d.symm.trans e);exact ne k
 induction o with
 |list=>
  refine ck λc=>?_;obtain⟨a,_,_,_,b,_⟩:=r;have:=one b (by simp)
  refine c ?_;exact⟨this,a▸this⟩
 |dict=>
  refine ck λc=>?_;obtain⟨a,_,_,b,_⟩:=r;have:=one b (by simp)
  refine c ?_;exact⟨this,a▸this⟩
 |inst=>
  refine ck λc=>?_;obtain⟨_,_,b,⟨od,es,n,f,g,_⟩,_⟩:=r;refine c ?_;exact⟨one b (by simp),I9 f (λι ι q=>nomatch g.symm.trans q) us⟩
 |jv=>
  have:=one r.2.2 (by simp)
  exact⟨this,r.1▸this⟩
 |jg=>
  refine ck λc=>?_;obtain⟨a,_,_,b,_⟩:=r;have:=one b (by simp)
  refine c ?_;exact⟨this,a▸this⟩
theorem ia.nf{h:bJ}{p:aB×aB}(r:ia X P ρ h p o):(∀x,h.get? p.1=aa x->¬jl x)/\∀x,h.get? p.2=aa x->¬jl x:=by
 induction o with
 |list=>
  obtain⟨a,_,_,_,b,_⟩:=r;have:=eO b λι q=>nomatch q;exact⟨this,a▸this⟩
 |dict=>
  refine ck λk=>?_;obtain⟨a,_,_,b,_⟩:=r;have:=eO b λι q=>nomatch q;refine k ?_;exact⟨this,a▸this⟩
 |inst=>
  refine ck λk=>?_;obtain⟨_,_,b,⟨od,es,n,c,d,_⟩,_⟩:=r;refine k ?_;exact⟨eO b (λι q=>nomatch q),eO c λι q=>nomatch d.symm.trans q⟩
 |jv=>
  have:=eO r.2.2 λι q=>nomatch q;exact⟨this,r.1▸this⟩
 |jg=>
  refine ck λk=>?_;obtain⟨a,_,_,b,_⟩:=r;have:=eO b λι q=>nomatch q;refine k ?_;exact⟨this,a▸this⟩
namespace TR
theorem jw(v:MO)(l r:TR)(i:ae):(node v l r).get i=if i=0 then aa v else if i% 2=1 then l.get (i/ 2) else r.get (i/ 2 - 1):=by
 show@dD (λι=>ao MO) (@dD (λι=>ao MO) (r.get (i/ 2 - 1)) (l.get (i/ 2)) (au (i% 2) 1)) (aa v) (au i 0)=_
 by_cases h:i=0
 ·rw[bc h,jd.mpr h]
 ·rw[aU h,iR.mpr λq=>h (jd.mp q)]
  by_cases h:i% 2=1
  ·rw[bc h,jd.mpr h]
  ·rw[aU h,iR.mpr λq=>h (jd.mp q)]
theorem Nv(v:MO)(l r:TR)(i:ae)(o:MO):(node v l r).set i o=if i=0 then node o l r else if i% 2=1 then node v (l.set (i/ 2) o) r else node v l (r.set (i/ 2 - 1) o):=by
 show@dD (λι=>TR) (@dD (λι=>TR) (node v l (r.set (i/ 2 - 1) o)) (node v (l.set (i/ 2) o) r) (au (i% 2) 1)) (node o l r) (au i 0)=_
 by_cases h:i=0
 ·rw[bc h,jd.mpr h]
 ·rw[aU h,iR.mpr λq=>h (jd.mp q)]
  by_cases h:i% 2=1
  ·rw[bc h,jd.mpr h]
  ·rw[aU h,iR.mpr λq=>h (jd.mp q)]
theorem yr(h:i% 2=a% 2)(e:i/ 2=a/ 2):i=a:=by rw[<-W6 i 2,<-W6 a 2,h,e]
theorem D6(i0: ¬i=0)(h:i% 2=0):0<i/ 2:=ae.pos_of_ne_zero λz=>i0 (yr (a:=0) h z)
theorem pf(o:MO):∀(t:TR)(a i:ae),((t.set a o).get a).isSome=aq->(t.set a o).get i=if i=a then aa o else t.get i
 |.nil,a,i=>by
  show((node o nil nil).get a).isSome=aq->(node o nil nil).get i=if i=a then aa o else aw
  rw[jw,jw];have z:∀i,nil.get i=aw:=λι=>rfl;simp only[z,ite_self]
  by_cases q:a=0
  ·subst q;intro _;rfl
  ·rw[aU q];exactλh=>fT h
 |.node v l r,a,i=>by
  rw[Nv]
  by_cases a0:a=0
  ·subst a0
   intro _;rw[bc rfl,jw,jw]
   by_cases i0:i=0
   ·rw[bc i0,bc i0]
   ·rw[aU i0,aU i0,aU i0]
  ·refine(aU a0)▸?_
   by_cases b:a% 2=1
   ·rw[bc b,jw,aU a0,bc b,jw,jw]
    intro h;rw[pf o l _ (i/ 2) h]
    by_cases i0:i=0
    ·rw[bc i0,bc i0,aU λe:i=a=>a0 (e▸i0)]
    ·rw[aU i0,aU i0]
     by_cases i1:i% 2=1
     ·rw[bc i1,bc i1]
      by_cases e:i=a
      ·rw[bc e,bc (aY (· / 2) e)]
      ·rw[aU e,aU λz=>e (yr (i1.trans b.symm) z)]
     ·rw[aU i1,aU i1,aU λ(e:i=a)=>i1 (e▸b)]
   ·rw[aU b,jw,aU a0,aU b,jw,jw]
    intro h;rw[pf o r _ (i/ 2 - 1) h]
    by_cases i0:i=0
    ·rw[bc i0,bc i0,aU λe:i=a=>a0 (e▸i0)]
    ·rw[aU i0,aU i0]
     by_cases i1:i% 2=1
     ·rw[bc i1,bc i1,aU λ(e:i=a)=>b (e▸i1)]
     ·rw[aU i1,aU i1]
      by_cases e:i=a
      ·rw[bc e,bc (aY (· / 2 - 1) e)]
      ·have z1:=(DB a).resolve_right b
       have z2:=(DB i).resolve_right i1;rw[aU e,aU λz:i/ 2 - 1=a/ 2 - 1=>e (yr (z2.trans z1.symm) (ae.pred_inj (D6 i0 z2) (D6 a0 z1) z))]
theorem qK(o:MO):∀(t:TR)(a:ae),(t.get a).isSome=aq->((t.set a o).get a).isSome=aq
 |.nil,a,h=>fT h|.node v l r,a,h=>by
  rw[jw]at h;rw[Nv]
  by_cases a0:a=0
  ·rw[bc a0,jw,bc a0];rfl
  ·rw[aU a0]at h⊢
   by_cases b:a% 2=1
   ·rw[bc b]at h⊢
    rw[jw,aU a0,bc b];exact qK o l _ h
   ·rw[aU b]at h⊢
    rw[jw,aU a0,aU b];exact qK o r _ h
end TR
section
variable{X:Ctx}{P:bZ}{ρ jk:fO}{h h' :bJ}{σ:St}{xs:ab aB}
theorem ia.mono(g:bY ρ h jk h' xs)(a:NT h xs)(e1:∀x,h.get? p.1=aa x->h'.get? p.1=aa x)(e2:∀x,h.get? p.2=aa x->h'.get? p.2=aa x)(r:ia X P ρ h p o):ia X P jk h' p o:=ia.map (Rep.mono g a) e1 e2 r
theorem hO(a:ρ.Pairwise λp q=>p.1≠q.1/\p.1≠q.2/\p.2≠q.1/\p.2≠q.2){n m:ae}{p q:aB×aB}(d:ρ[n]? =aa p)(e:ρ[m]? =aa q)(ne:n≠m):
  p.1≠q.1/\p.1≠q.2/\p.2≠q.1/\p.2≠q.2:=by
 obtain⟨b,rfl⟩:=aV.mp d;obtain⟨c,rfl⟩:=aV.mp e;rw[jn]at a;rcases ae.lt_or_gt_of_ne ne with l|l
 ·exact a n m b c l
 ·have:=a m n c b l
  exact⟨this.1.symm,this.2.2.1.symm,this.2.1.symm,this.2.2.2.symm⟩
structure Off(X:Ctx)(ρ:fO)(h:bJ)(a:aB):Prop where
 adr: ¬adr ρ a
 h0:X.h0.get? a=aw
 tup:∀us,¬h.IsTuple a us
 nf:∀o,h.get? a=aa o->¬jl o
theorem Off.nt(o:∀a∈xs,Off X ρ h a):NT h xs:=λa b=>(o a b).tup
theorem h5.moved(S:h5 X P ρ σ h)(b:∀b o,X.h0.get? b=aa o->h'.get? b=aa o)(kL:∀p∈ρ,(∀x,h.get? p.1=aa x->h'.get? p.1=aa x)/\∀x,h.get? p.2=aa x->h'.get? p.2=aa x)(mono:∀{x v vs},Rep X ρ h x v vs->Rep X ρ h' x v vs)(d:CK h h'):h5 X P ρ σ h' :=by
 refine⟨b,S.len,λq c=>?_,S.apart,λq c us=>?_,λm x e=>?_,S.pl.mono d,λq c=>⟨(S.x4 q c).1,(S.x4 q c).2.same (S.above q c).2 (kL q c)⟩⟩
 ·refine ck λf=>?_
  obtain⟨a,⟨g,e1⟩,i,e2⟩:=S.above q c;refine f ?_;exact⟨a,⟨g,(kL q c).1 _ e1⟩,i,(kL q c).2 _ e2⟩
 ·have a:=(S.above q c).2
  exact⟨λt=>(S.nt q c us).1 (jm a.1 (kL q c).1 t),λt=>(S.nt q c us).2 (jm a.2 (kL q c).2 t)⟩
 ·obtain⟨p,hp,r⟩:=S.objs m x e
  have k:=kL p (aA hp);exact⟨p,hp,r.map mono k.1 k.2⟩
theorem h5.frame(S:h5 X P ρ σ h)(d:∀a∈xs,Off X ρ h a)(l:∀b o,h.get? b=aa o->∃o',h'.get? b=aa o')(k:∀b o,b∉xs->h.get? b=aa o->h'.get? b=aa o):h5 X P ρ σ h' :=by
 exact S.moved (λb x e=>k b x (λq=>b6 ((d b q).h0.symm.trans e)) (S.base b x e)) (λp hp=>⟨λy f=>k _ y (λq=>(d _ q).adr (.inr ⟨p,hp,.inl rfl⟩)) f,λy f=>k _ y (λq=>(d _ q).adr (.inr ⟨p,hp,.inr rfl⟩)) f⟩) (Rep.mono (bY.heap l λb o n ι e=>k b o n e:bY ρ h ρ h' xs) (Off.nt d)) λb o e c=>k b o (λq=>(d b q).nf o e c) e
theorem h5.keeps(S:h5 X P ρ σ h)(k:∀b o,h.get? b=aa o->h'.get? b=aa o):h5 X P ρ σ h' :=S.frame (xs:=[]) (λι q=>sr q) (λb o e=>⟨o,k b o e⟩) λb o ι e=>k b o e
theorem h5.cP(S:h5 X P ρ σ h)(c:h.get? a=aw): ¬adr ρ a/\X.h0.get? a=aw:=by
 refine⟨λz=>?_,gI (λb o e=>⟨o,S.base b o e⟩) c⟩;obtain z|⟨p,hp,q⟩:=z
 ·obtain⟨_,_,⟨_,e⟩,_⟩:=S.pl
  exact b6 ((z▸c).symm.trans e)
 obtain⟨_,⟨d,e1⟩,f,e2⟩:=S.above p hp;rcases q with rfl|rfl
 ·exact b6 (c.symm.trans e1)
 ·exact b6 (c.symm.trans e2)
theorem h5.put(S:h5 X P ρ σ h){n:ae}{p:aB×aB}{o o' :MO}(D:1<=n)(u:σ.t.get n=aa o)(hp:ρ[n]? =aa p)(keep:∀b x,b≠p.1->b≠p.2->h.get? b=aa x->h'.get? b=aa x)(l1:∃o,h'.get? p.1=aa o)(l2:∃o,h'.get? p.2=aa o)(r:bY ρ h ρ h' []->ia X P ρ h' p o'):
  h5 X P ρ ⟨σ.t.set n o',σ.n⟩ h'/\bY ρ h ρ h' []:=by
 have off:=Nu hp;have live:∀b x,h.get? b=aa x->∃E,h'.get? b=aa E:=λb x e=>by
  by_cases v:b=p.1
  ·exact v▸l1
  ·by_cases w:b=p.2
   ·exact w▸l2
   ·exact⟨x,keep b x v w e⟩
 have Sr:=I8 D hp;have g:bY ρ h ρ h' []:=bY.heap live λb x ι z e=>keep b x (λq=>z (q▸Sr.1)) (λq=>z (q▸Sr.2)) e;have old:(∀x,h.get? p.1=aa x->¬jl x)/\∀x,h.get? p.2=aa x->¬jl x:=by
  refine ck λk=>?_;obtain⟨A,l,ro⟩:=S.objs n o u;obtain rfl:=af (hp.symm.trans l);refine k ?_;exact ro.nf
 refine⟨⟨λb x e=>?_,S.len,λq f=>?_,S.apart,λq f us=>?_,λm x e=>?_,S.pl.mono λb x e c=>keep b x (λq=>old.1 x (q▸e) c) (λq=>old.2 x (q▸e) c) e,λq f=>⟨(S.x4 q f).1,?_⟩⟩,g⟩
 ·have C:=(S.above p (aA hp)).1
  exact keep b x (λq=>b6 ((q▸C.1).symm.trans e)) (λq=>b6 ((q▸C.2).symm.trans e)) (S.base b x e)
 ·refine ck λk=>?_
  obtain⟨a,⟨F,e1⟩,G,e2⟩:=S.above q f;refine k ?_;exact⟨a,live _ _ e1,live _ _ e2⟩
 ·obtain⟨m,s,rfl⟩:=dV f
  have i:=az s
  by_cases e:m=n
  ·refine ck λk=>?_
   subst e;obtain rfl:=af (i.symm.trans hp);refine k ?_;exact(r g).aaH us
  ·have d:=hO S.apart i hp e
   have a:=(S.above _ f).2;exact⟨λt=>(S.nt _ f us).1 (jm a.1 (λy j=>keep _ y d.1 d.2.1 j) t),λt=>(S.nt _ f us).2 (jm a.2 (λy j=>keep _ y d.2.2.1 d.2.2.2 j) t)⟩
 ·have e:(σ.t.set n o').get m=aa x:=e
  rw[TR.pf o' σ.t n m (TR.qK o' σ.t n (by rw[u];rfl))]at e
  by_cases q:m=n
  ·rw[bc q]at e
   obtain rfl:=af e;exact⟨p,q▸hp,r g⟩
  ·rw[aU q]at e
   obtain⟨A,l,ro⟩:=S.objs m x e;have d:=hO S.apart l hp q;exact⟨A,l,ro.mono g NT.nil (λy j=>keep _ y d.1 d.2.1 j) λy j=>keep _ y d.2.2.1 d.2.2.2 j⟩
 ·refine ck λk=>?_
  obtain⟨m,s,rfl⟩:=dV f;have i:=az s;refine k ?_
  by_cases e:m=n
  ·refine ck λk=>?_
   clear off;subst e;clear old;obtain rfl:=af (i.symm.trans hp);refine k ?_;exact(r g).nf
  ·have d:=hO S.apart i hp e
   exact(S.x4 _ f).2.same (S.above _ f).2 ⟨λy j=>keep _ y d.1 d.2.1 j,λy j=>keep _ y d.2.2.1 d.2.2.2 j⟩
def tj(b:fO)(c:St)(p:aB×aB):Prop:=∀{X:Ctx}{P:bZ}{h:bJ}(S:h5 X P b c h){o:MO}(s:((c.t.set c.n o).get c.n).isSome=aq)(a: ¬adr b p.1)(d: ¬adr b p.2)(z1:X.h0.get? p.1=aw)(z2:X.h0.get? p.2=aw)(t1:∀us,¬h.IsTuple p.1 us)(t2:∀us,¬h.IsTuple p.2 us)(l1:∃o,h.get? p.1=aa o)(l2:∃o,h.get? p.2=aa o)(r:(∀{x v vs},Rep X b h x v vs->Rep X (b++[p]) h x v vs)->ia X P (b++[p]) h p o),(b++[p])[c.n]? =aa p/\h5 X P (b++[p]) ⟨c.t.set c.n o,ar c.n⟩ h
def yt:=λx:_×_×_=>tj x.1 x.2.1 x.2.2
def tm:=haveI:=Gw;qy bB yt
namespace yu
def b:=tm.1
def c:=tm.2.1
def p:=tm.2.2
theorem ok:tj b c p:=by
 intro X P h S o s g i z1 z2 t1 t2 l1 l2 r;have l:(b++[p])[c.n]? =aa p:=by refine S.len▸?_;simp
 have up:∀(n:ae)(q:aB×aB),b[n]? =aa q->(b++[p])[n]? =aa q:=λn q e=>by rw[ct (aV.mp e).1];exact e
 have ne:∀q∈b,q.1≠p.1/\q.1≠p.2/\q.2≠p.1/\q.2≠p.2:=λq d=>⟨λe=>g (.inr ⟨q,d,.inl e.symm⟩),λe=>i (.inr ⟨q,d,.inl e.symm⟩),λe=>g (.inr ⟨q,d,.inr e.symm⟩),λe=>i (.inr ⟨q,d,.inr e.symm⟩)⟩;have k:∀a us,h.IsTuple a us->¬adr b a->h.IsTuple a us/\¬adr (b++[p]) a:=λa us t n=>⟨t,λz=>by
  rw[kM]at z;rcases z with z|z|⟨q,d,z⟩
  ·exact n z
  ·exact n (.inl z)
  ·rw[aJ]at d;cases d
   clear n;rcases z with rfl|rfl
   ·exact t1 _ t
   ·exact t2 _ t⟩
 have gen:∀{O:ae->ag->Prop}{x v vs},pd X O b h x v vs->pd X O (b++[p]) h x v vs:=λz=>pd.gen up k (λι ι e=>e) z;refine⟨l,⟨S.base,by simp[S.len],λq d=>?_,?_,λq d us=>?_,λm x e=>?_,S.pl,λq d=>?_⟩⟩
 ·rcases bE.mp d with d|d
  ·exact S.above q d
  ·rw[aJ]at d;subst d
   exact⟨⟨z1,z2⟩,l1,l2⟩
 ·rw[Kb]
  exact⟨S.apart,qd _ _,λq d y f=>by rw[aJ]at f;subst f;exact ne q d⟩
 ·rcases bE.mp d with d|d
  ·exact S.nt q d us
  ·rw[aJ]at d;cases d
   exact⟨t1 us,t2 us⟩
 ·have e:(c.t.set c.n o).get m=aa x:=e
  replace e:=TR.pf o c.t c.n m s▸e
  by_cases q:m=c.n
  ·replace e:=bc q▸e
   obtain rfl:=af e;exact⟨p,q▸l,r gen⟩
  ·replace e:=aU q▸e
   refine ck λu=>?_;obtain⟨w,j,ro⟩:=S.objs m x e;refine u ?_;exact⟨w,up _ _ j,ro.map gen (λι e=>e) λι e=>e⟩
 ·rcases bE.mp d with d|d
  ·exact S.x4 q d
  ·rw[aJ]at d;subst d
   exact⟨⟨λe=>g (.inl e),λe=>i (.inl e)⟩,(r gen).nf⟩
end yu
theorem h5.label:tj ρ σ p:=@d5 _ _ yt @yu.ok (ρ,σ,p)
theorem h5.alloc(S:h5 X P ρ σ h)(s:((σ.t.set σ.n o).get σ.n).isSome=aq)(k:∀b o,h.get? b=aa o->h'.get? b=aa o)(c:h.get? p.1=aw)(d:h.get? p.2=aw)(l1:∃o,h'.get? p.1=aa o)(l2:∃o,h'.get? p.2=aa o)(t1:∀us,¬h'.IsTuple p.1 us)(t2:∀us,¬h'.IsTuple p.2 us)(r:bY ρ h (ρ++[p]) h' []->ia X P (ρ++[p]) h' p o):(ρ++[p])[σ.n]? =aa p/\h5 X P (ρ++[p]) ⟨σ.t.set σ.n o,ar σ.n⟩ h'/\bY ρ h (ρ++[p]) h' []:=by
 have g:bY ρ h (ρ++[p]) h' []:=⟨⟨[p],rfl,λq f=>by rw[aJ]at f;cases f;exact⟨c,d⟩⟩,λb x e ι ι=>k b x e,λb x e=>⟨x,k b x e⟩⟩
 have i:=S.cP c;have j:=S.cP d;obtain⟨a,b⟩:=(S.keeps k).label s i.1 j.1 i.2 j.2 t1 t2 l1 l2 λι=>r g;exact⟨a,b,g⟩
end
end
noncomputable def pg:ab cZ:=Builtin.Bytes.decodersThatHold++["bytearray.__contains__","bytearray.__mod__","bytearray.__rmod__","_struct.pack_into.held","bytearray.find.held"]
set_option backward.match.sparseCases false in
noncomputable def RM:F7->aE
 |.builtin id a=>!pg.contains id|_=>aq
def GG(Γ:Q4):Prop:=∀x∈Γ.below,RM x.1=aq
def Clean(Γ:Q4):Prop:=RM Γ.code=aq/\GG Γ
def bk{α:Type}(M:dZ)(A:aW)(t:Sem α)(Q:α->ah->Prop)(E:ag->ah->Prop)(s:ah):Prop:=
 ∀Γ p,Γ.In A->Clean Γ->Sem.wp M Γ t (λa ι b=>Q a b) (λe ι b=>E e b) p s
def dg(M:dZ)(A:aW)(c:F7)(R:c8->ah->Prop)(s:ah):Prop:=
 ∀Γ p,Γ.code=c->Γ.Below A->GG Γ->wpCode M Γ R p s
section
variable{α β:Type}{M:dZ}{A:aW}{E:ag->ah->Prop}{s:ah}
theorem aT{t:Sem α}{Q:α->ah->Prop}(h:bO M A t Q E s):bk M A t Q E s:=λb p a ι=>h b p a
theorem D7(h:codeAny M A c R s):dg M A c R s:=λb p d a ι=>h b p d a
theorem aO{Q:α->ah->Prop}(h:Q a s):bk M A (pure a) Q E s:=aT (aH h)
theorem aI{Q d:α->ah->Prop}{f:ag->ah->Prop}(h:bk M A t Q E s)(i:∀a s,Q a s->d a s)(j:∀e s,E e s->f e s):bk M A t d f s:=
 λg p b c=>tS M g t (λa ι s=>i a s) (λe ι s=>j e s) p s (h g p b c)
theorem aj{m:Sem α}{f:α->Sem β}{Q:β->ah->Prop}(h:bk M A m (λa e=>bk M A (f a) Q E e) E s):bk M A (m>>=f) Q E s:=λd p b c=>by
 rw[Ir];exact tS M d m (λa g e h' =>h' d g b c) (λι ι ι h' =>h') p s (h d p b c)
theorem aP(h:bk M A m Q E s):bk M A (dJ vs m) Q E s:=λb p a c=>by
 rw[Sem.wp_holding];exact h b p a c
theorem jF{k:ag->Sem jb}(h:bk M A m Q (λe f=>bk M A (k e) (λι b=>E e b) E f) s):bk M A (m.onRaise k) Q E s:=λd p a c=>by
 rw[Sem.wp_onRaise];exact tS M d m (λι ι ι h' =>h') (λe g f h' =>h' d g a c) p s (h d p a c)
theorem nO{Q:Except ag α->ah->Prop}(h:bk M A m (λa=>Q (.ok a)) (λe=>Q (.error e)) s):bk M A m.attempt Q E s:=λd p b c=>by
 rw[Sem.wp_attempt];exact h d p b c
theorem lC(h:bk M A m Q E s):bk M A (operate vs m) Q E s:=λb p a c=>by
 rw[Sem.wp_operate];exact h b p a c
theorem Nw(h:bk M A m Q E s):bk M A (m.keep vs) Q E s:=λb p a c=>by
 rw[Sem.wp_keep];exact h b p a c
theorem um(h:bk M A (storeName env x v) Q E s):bk M A (sj env x v) Q E s:=λb p a c=>by
 rw[Sem.wp_bindName];exact h b p a c
theorem xb(h:Clean Γ)(c:F7)(d:ao ag)(p:Pos):GG (Γ.enter c d p):=by
 intro x a;rcases aG.mp a with rfl|a
 ·exact h.1
 ·exact h.2 x a
theorem I_{Q:tT->ah->Prop}(d:dg M (A.mark h) c (λr b=>match r with|.ok f=>Q f b|.error e=>E e b) s)(n:h≠aa byPass):
  bk M A (run c h) Q E s:=λg p a l=>by
 rw[Sem.wp_run];exact d _ p rfl (a.enter c h p n) (xb l c h p)
theorem Cr{Q:ag->ah->Prop}(b:dg M A c (λr a=>match r with|.ok (.ret v)=>Q v a|.ok _=>jD|.error e=>E e a) s):bk M A (runValue c) Q E s:=λd p h l=>by
 rw[Sem.wp_runValue];exact b _ p rfl (h.enter c aw p (by intro x;cases x)) (xb l c aw p)
theorem ib{Q:ag->ah->Prop}(h:dg M A (.call f ⟨pos,k⟩) (λr a=>match r with|.ok (.ret v)=>Q v a|.ok _=>jD|.error e=>E e a) s):
  bk M A (call f pos k) Q E s:=Cr h
theorem ph{R b:c8->ah->Prop}(h:dg M A c R s)(d:∀r s,R r s->b r s):dg M A c b s:=λe p f a l=>wpCode_mono d (h e p f a l)
theorem dN{R:c8->ah->Prop}(ok:RM c=aq)(h:bk M (A.under c) (M.den c) (λfin a=>match fin with|.done f=>R (.ok f) a|.again b=>b.quiet=aq/\dg M A b R a) (λe a=>R (.error e) a) s):
  dg M A c R s:=λΓ p g d l=>by
 rw[wpCode_iff_wp,g];refine tS M Γ _ (λfin i a h' =>?_) (λι ι ι h' =>h') p s (h Γ p (g▸d.in) ⟨by rw[g];exact ok,l⟩)
 induction fin with
 |done f=>exact h'|again b=>exact⟨h'.1,h'.2 (Γ.goto b) i rfl (d.goto b) l⟩
theorem a8{Q:jb->ah->Prop}(h:Q () s):bk M A (ij pos) Q E s:=aT (ye h)
theorem fE{Q:α->ah->Prop}(e:t=pure a)(h:Q a s):bk M A t Q E s:=aT (d0 e h)
theorem vG{Q:jb->ah->Prop}(h:Q () s):bk M A point Q E s:=aT (VD h)
theorem lD{Q:jb->ah->Prop}(h:Q () s):bk M A (VE t) Q E s:=aT (kX h)
end
section
variable{M:dZ}{A:aW}{E:ag->ah->Prop}{s:ah}
theorem jq{c:Prop}[jP c](a: ¬c)(h:bk M A e Q E s):bk M A (if c then t else e) Q E s:=by rw[aU a];exact h
theorem Cs{c:Prop}[jP c](a:c)(h:bk M A t Q E s):bk M A (if c then t else e) Q E s:=by rw[bc a];exact h
theorem gb{c:Prop}[jP c](a: ¬c)(h:bO M A e Q E s):bO M A (if c then t else e) Q E s:=by rw[aU a];exact h
theorem jG{c:Prop}[jP c](a:c)(h:bO M A t Q E s):bO M A (if c then t else e) Q E s:=by rw[bc a];exact h
theorem uo(e:m=a)(h:bk M A a Q E s):bk M A m Q E s:=e▸h
theorem tn(e:m=a)(h:bO M A a Q E s):bO M A m Q E s:=e▸h
end
theorem Ss{R:c8->ah->Prop}(g:s.asleep)(h:bk (bK prog w) Gk t (λfin a=>∃f,fin=.done f/\(R (.ok f) a/\iY a.gens=ai)) (λe a=>R (.error e) a/\iY a.gens=ai) s):
  ∃n r a b,runN (denote yf) prog w n s ⟨t,.builtin "claim.caller" {},cC,[]⟩=.halted (MI r) a/\
   schedN (denote yf) prog w n (.single s ⟨t,.builtin "claim.caller" {},cC,[]⟩)=.halted (MI r) a/\a.forget=b.forget/\R r b:=by
 have c:Sem.wp (bK prog w) ⟨.builtin "claim.caller" {},aw,aw,[],aw⟩ t (Sem.finPost (bK prog w) ⟨.builtin "claim.caller" {},aw,aw,[],aw⟩ λr a=>R r a/\iY a.gens=ai)
   (λe ι a=>R (.error e) a/\iY a.gens=ai) cC s:=by
  refine tS _ _ t (λfin v a h' =>?_) (λι ι ι h' =>h') cC s (h _ cC caller_in ⟨rfl,λx i=>nomatch i⟩);obtain⟨f,rfl,hf⟩:=h';exact hf
 refine ck λk=>?_;obtain⟨n,r,j,l,m,p,o,u⟩:=wp_halts_full (M:=bK prog w) (R:=R) g c;refine k ?_;exact⟨n,r,l,j,p,m,o,u⟩
def Nx(c:ClaimW)(k:bJ->Prop)(s a:ah)(args:ab Iu)(vs:ab ag)(e:c8)(b:ah):Prop:=c.Ends s args vs a e b/\b.os=s.os/\k b.heap
def ac0(c:ClaimW)(k:bJ->Prop)(t:ab ag->Sem Fin)(w:bU)(s:ah)(args:ab Iu)(vs:ab ag)(a:ah):Prop:=
 bk (bK c.prog w) Gk (t vs) (λfin b=>∃f,fin=.done f/\(Nx c k s a args vs (.ok f) b/\iY b.gens=ai)) (λe b=>Nx c k s a args vs (.error e) b/\iY b.gens=ai) a
inductive Ny(c:ClaimW)(kept:bJ->Prop)(t:ab ag->Sem Fin)(w:bU)(s:ah)(ord:ab aZ->ab aZ)(args:ab Iu):Prop
 |mk {vs:ab ag}{XQ:ah} (l:layAllW c.records (Gl s.heap) w.params ord args s=aa (vs,XQ)) (h:ac0 c kept t w s args vs XQ):Ny c kept t w s ord args
theorem Nz{R S T U g V:ag->Prop}{B C D E F i:aB->Obj->ExcName->Prop}(h:(∃v,s=.ok (.ret v)/\R v/\S v/\T v/\U v/\V v)\/∃e o cls,s=.error (.ref e)/\B e o cls/\C e o cls/\D e o cls/\E e o cls/\F e o cls)(j:∀v,U v->g v)(k:∀e o cls,F e o cls->i e o cls):
  (∃v,MI s=.done (.ret v)/\R v/\S v/\T v/\g v/\V v)\/∃e o cls,MI s=.uncaught (.ref e)/\B e o cls/\C e o cls/\D e o cls/\E e o cls/\i e o cls:=by
 rcases h with⟨v,rfl,a,b,c,d,e⟩|⟨e,o,cls,rfl,a,b,c,d,f⟩
 ·exact .inl ⟨v,rfl,a,b,c,j v d,e⟩
 ·exact .inr ⟨e,o,cls,rfl,a,b,c,d,k e o cls f⟩
theorem aaI{α f g h i:Type}{A:α->f->Prop}{B C D E F G:α->f->g->h->i->Prop}{a:α}{b:f}{c:g}{d:h}{e:i}(j:A a b)(k:B a b c d e)(l:C a b c d e)(m:D a b c d e)(n:E a b c d e)(o:F a b c d e)(p:G a b c d e):
  ∃a b,A a b/\∃c d e,B a b c d e/\C a b c d e/\D a b c d e/\E a b c d e/\F a b c d e/\G a b c d e:=⟨a,b,j,c,d,e,k,l,m,n,o,p⟩
theorem GH{c:ClaimW}{t:ab ag->Sem Fin}{w:bU}{s:ah}{j:aB->Prop}{g:Prop}{p:bJ->Prop}(hz:s.asleep)(n:s.gens= #[])(h:∀args,c.pre args=aq->Q5 args=aq->∀ord:ab aZ->ab aZ,(∀l,(ord l).Perm l)->Ny c p t w s ord args):c.CallFrom (λvs=>⟨t vs,.builtin "claim.caller" {},cC,[]⟩) w j g p s:=by
 intro args m u ord z;refine ck λH=>?_;obtain⟨a,I⟩:=h args m u ord z;have A:=layAllW_rest _ _ _ a;obtain⟨k,J,O,s3,C,e,D,f,E,F⟩:=Ss (ah.asleep_of_life A.2.2.2 hz) I;obtain⟨G,_,_,L,_⟩:=ah.forget_eq D;refine H (aaI a e ?_ (λι i x M=>b6 (n▸M)) (G▸F) (aY Life.seen ((runN_life _ _ _ C).trans A.2.2.2)) (ah.rest_eq (L▸E)));exact Nz (f.congr G) (λv h b o y ι=>h b o y) λι ι ι h b o y ι=>h b o y
theorem GI{A B:ah->Prop}{C P Q R S:ah->ah->Prop}{D E F G H:ah->Prop}(h:∃a,A a/\B a/\∃s,C a s/\D s/\E s/\F s/\G s/\H s)(k:∀a s,C a s->D s->E s->F s->G s->H s->P a s/\Q a s/\R a s/\S a s):∃a,A a/\B a/\∃s,C a s/\P a s/\Q a s/\R a s/\S a s:=
 h.imp λι h=>h.imp_right λh=>h.imp_right λh=>h.imp λι h=>⟨h.1,k _ _ h.1 h.2.1 h.2.2.1 h.2.2.2.1 h.2.2.2.2.1 h.2.2.2.2.2⟩
section
variable{r:OpenRow}{q:bS}{loose:ab Str}{Xt:ah->aE}{XP:(Str->ao ag)->bJ->Prop}{Ya:bU->bJ}{d:Q3}{kwd:ab (Str×aQ)}{N:ae}
theorem Su{ord:ab aZ->ab aZ}(X:∀mg h h',XP mg h->(∀b o,h.get? b=aa o->h'.get? b=aa o)->XP mg h')(m:defOf q r.name=aa (d,kwd))(n:s.gens= #[])(G:Ground q loose r.records XP w s (s.heap.nsMap dh) (s.heap.nsMap fh) s.heap)(fin:∀c vs as,Laid r.records w s c args vs as->∀p f,GoodWG r.claim (Gl s.heap) (oo s.heap) args c p f->Nx r.claim k s c args vs p f/\iY f.gens=ai)(call:∀c mg a vs as,c.heap.Ns dh mg->mg r.name=aa (.ref a)->Laid r.records w s c args vs as->xK w.params c.heap vs args->
   bk (bK r.prog w) Gk (PySem.call (.ref a) vs) (λv f=>GoodWG r.claim (Gl s.heap) (oo s.heap) args c (.ok (.ret v)) f) (λe f=>GoodWG r.claim (Gl s.heap) (oo s.heap) args c (.error e) f) c)(t:r.claim.pre args=aq)(y:Q5 args=aq)(j:∀l,(ord l).Perm l):Ny r.claim k (λvs=>(callStub r.name vs).cur) w s ord args:=by
 obtain⟨⟨vs,c⟩,i⟩:=fq.mp (layAllW_isSome (P:=w.params) (ord:=ord) G.has args r.args s (pre_splitW t).1);have keeps:=layAllW_keeps _ _ _ i;have u:=layAllW_rest _ _ _ i;obtain⟨as,z,A,x⟩:=reads_layAllW j _ _ _ i y c.heap (λι ι e=>e);have L:Laid r.records w s c args vs as:=⟨⟨ord,j,i⟩,z,A,x,keeps,u.1.trans n,u.2.2.1⟩;have XR:=G.keeps X keeps;obtain⟨a,o,pm,D,doc,E,F,C,_⟩:=XR.fn m;have fin:=fin c vs as L;refine⟨i,aj (aT (wpAny_nsGet XR.T.g ?_))⟩;refine C▸?_;exact aj (aI (call c _ a vs as XR.T.g C L L.well) (λv f g=>aO ⟨_,rfl,fin _ _ g⟩) λe f g=>fin _ _ g)
theorem Sv(left:LeftO r.prog q loose Xt (λs=>s.heap) Ya N)(J:∀s,Xt s=aq->XP (s.heap.nsMap dh) s.heap)(C:∀mg h h',XP mg h->(∀b o,h.get? b=aa o->h'.get? b=aa o)->XP mg h')(k:defOf q r.name=aa (d,kwd))(hp:r.prog.theDef r.name=aa (d.params,d.body,d.scope))(Q:kwWritten? d.params.kwonlyargs d.params.kw_defaults=aa kwd)(R:∀s,Xt s=aq->RecFacts r.records s.heap)(E:(!r.writes ||r.records.isEmpty)=aq)(S:r.wellSaid=aq)(ok:(chainsOk q&&opensWell r.prog&&(frees r.toRowW&&r.within.isEmpty))=aq)(hb:r.prog.bare)(A:r.toRowW.promised)(call:∀(w:bU)(i f:ah)(mg:Str->ao ag)(a:aB)(args:ab Iu)(vs:ab ag)(as:ab aB),i.heap=Ya w->f.heap.Ns dh mg->mg r.name=aa (.ref a)->Laid r.records w i f args vs as->r.claim.pre args=aq->
   xK w.params f.heap vs args->bk (bK r.prog w) Gk (PySem.call (.ref a) vs) (λv l=>GoodWG r.claim (Gl i.heap) (oo i.heap) args f (.ok (.ret v)) l) (λe l=>GoodWG r.claim (Gl i.heap) (oo i.heap) args f (.error e) l) f):r.Holds:=by
 obtain⟨ok,F⟩:=gY.mp ok;obtain⟨t,U⟩:=gY.mp ok;obtain⟨F,Y⟩:=gY.mp F;obtain⟨m,Z,ha,G,hm⟩:=frees_parts F;refine⟨S,A,⟨⟨hb,U,by show r.makers.map _=[];refine hm▸?_;rfl⟩,A.witness,λw=>⟨(left.behind J t w).1,λl H=>?_⟩⟩⟩
 refine GI ((left.behind (XP:=λmg h=>XP mg h/\RecFacts r.records h) (λs M=>⟨J s M,R s M⟩) t w).2 l H) λi s hT hz j O Kp y=>?_;have P:Ground q loose [] XP w s (s.heap.nsMap dh) (s.heap.nsMap fh) s.heap:=⟨Kp.T,Kp.B,Kp.D,Kp.TE,Kp.TD,Kp.W,Kp.X.1,Kp.cls,Kp.has,Kp.apart,Kp.once,Kp.K⟩;have RF:=Kp.X.2;have I:∀n∈(if r.pinned then[r.name] else[]),isTheDefsW r.prog s.heap n:=λn hn=>by
  obtain rfl:n=r.name:=by split at hn<;>simp_all
  exact pinned_of_view O P k hp Q
 have j:s.gens= #[]:=Array.eq_empty_of_size_eq_zero (eF.mp j);refine⟨I,RF.1,RF.2.1,GH hz j λargs p u ord x=>Su C k j (RF.ground P) (λf vs as L res l g=>?_) (λf mg a vs as h1 h2 L A=>call w s f mg a args vs as y h1 h2 L p A) p u x⟩;have z:=g.laid (c:=r.claim) m (ab.isEmpty_iff.mp Y:r.claim.within=[]) (ident_freeW Z ha G) L;exact⟨⟨z.1,z.2.1,λw1=>⟨namesKept_of hT O r.keeps L.keeps g.2.1.old,noTable E w1⟩⟩,leftWithCleanup_false_of_bare z.2.2⟩
end
theorem Sw(h:pb.toRowW.claim.pre args=aq):∃is:ab Int,args=[.list (is.map .int)]/\is.length<=63:=by
 have h:(VF [] args [.list .int]&&pb.toRowW.pre.holds [] {args:=args})=aq:=h;obtain⟨b,d⟩:=gY.mp h
 induction args with
 |nil=>exact nomatch b|cons x r=>
  obtain⟨k,e⟩:=gY.mp (show(WShape.has [] x (.list .int)&&VF [] r [])=aq from b)
  induction r with
  |cons g i=>exact er (show ai=aq from e) bM|nil=>
   obtain⟨xs,rfl,f⟩:=hasW_list k;obtain⟨is,rfl⟩:=items_int f;refine⟨is,rfl,?_⟩;have v:(WTm.not (.lt (.lit (.int 63)) (.len (.arg 0)))).value [] {args:=[.list (is.map .int)]}=aa (.bool (!decide ((63:Int)<((is.map Iu.int).length:ae)))):=w_not (w_lt rfl rfl);have a:(match (WTm.not (.lt (.lit (.int 63)) (.len (.arg 0)))).value [] {args:=[.list (is.map .int)]} with|some (.bool aq)=>aq|_=>ai)=aq:=(holds_andW d).1
   rw[v,b9]at a
   by_cases c:(63:Int)<is.length
   ·rw[cc c]at a;exact er (show ai=aq from a) bM
   ·exact nC.mp (Q6.mp c)
section
variable{M:dZ}{A:aW}{E:ag->ah->Prop}{s:ah}{env:Env}
abbrev lV{E:ag->ah->Prop}:∀e s,E e s->E e s:=λι ι x=>x
def lE(M:dZ)(A:aW)(env:Env)(E:ag->ah->Prop):ag->ah->Prop:=λx b=>bk M A (i9 x env) (λι a=>E x a) E b
def gJ(M:dZ)(A:aW)(env:Env)(E:ag->ah->Prop):ag->ah->Prop:=λx b=>bk M A (do
  if (<-field x 1)==.none then unsupported "frame.own-activation:exception-without-traceback"
  DC x env.frame) (λι a=>E x a) E b
theorem tp{Q:tT->ah->Prop}(b:dg M (A.mark h) c (λr a=>match r with|.ok f=>Q f a|.error e=>gJ M A env E e a) s)(n:h≠aa byPass):
  bk M A (runOwn c env h) Q E s:=by
 exact jF (I_ b n)
theorem rm(h:bk M A m Q (lE M A env E) s):bk M A (m.onRaise λx=>do i9 x env;oq x) Q E s:=
 jF (aI h (λι ι q=>q) λι ι a=>aj (aI a (λι ι e=>aT (wpAny_theTreesLotGoes e)) λι ι e=>e))
theorem D8(h:bk M A m Q (lE M A env E) s):bk M A (m.onRaise λx=>do i9 x env;ij pos) Q E s:=
 jF (aI h (λι ι q=>q) λι ι a=>aj (aI a (λι ι e=>a8 e) λι ι e=>e))
theorem D9(h:bk M A (loadName env x) Q E s)(d:(x==("__debug__":Str))=ai):bk M A (cn (.Name x pos) env) Q E s:=by
 rw[eval_Name env x pos d];exact aj (a8 h)
theorem kz(k:env.scope.kind=.function)(a:env.kindOf x=aa .globalImplicit)(h:bk M A (loadGlobal env x) Q E s)(d:(x==("__debug__":Str))=ai):bk M A (cn (.Name x pos) env) Q E s:=D9 (uo (loadName_read k a) h) d
theorem Kq{l op r pos}(h:bk M A (cn l env) (λa c=>bk M A (cn r env) (λb d=>bk M A (gv op a b) Q E d) E c) E s):bk M A (cn (.BinOp l op r pos) env) Q E s:=by
 rw[eval_BinOp];exact aj (aI h (λa c e=>aj (aP (aI e (λb d f=>aj (a8 (lC f))) lV))) lV)
theorem qL{op x pos}(h:bk M A (cn x env) (λv a=>bk M A (Q7 op v) Q E a) E s):bk M A (cn (.UnaryOp op x pos) env) Q E s:=by
 rw[arm_eval_UnaryOp];exact aj (aI h (λv a b=>aj (a8 (aP b))) lV)
theorem GJ{Q:ag->ah->Prop}(h:bk M A (iB v) (λb a=>Q (.bool (!b)) a) E s):bk M A (Q7 .Not v) Q E s:=by
 unfold Q7;refine aP ?_;exact aj (aI h (λb a c=>aO c) lV)
theorem Ct{l op r pos}(h:bk M A (cn l env) (λa c=>bk M A (cn r env) (λb d=>bk M A (cq op a b) Q E d) E c) E s)(m:Mm op r=ai):
  bk M A (cn (.Compare l [op] [r] pos) env) Q E s:=by
 rw[eval_Compare1,MJ m];exact aj (aI h (λa c e=>aj (aP (aI e (λb d f=>aj (a8 (lC f))) lV))) lV)
theorem r8{l op r pos o}(h:bk M A (cn l env) (λa d=>bk M A (cn r env) (λb e=>bk M A (cq op a b) (λc f=>bk M A (iB c) Q E f) E e) E d) E s)(m:Mm op r=ai):
  bk M A (isTrue (.Compare l [op] [r] pos) env o) Q E s:=by
 rw[isTrue_Compare1,MJ m];exact aj (aI h (λa d g=>aj (aP (aI g (λb e i=>aj (a8 (aj (lC (aI i (λc f j=>aP j) lV))))) lV))) lV)
theorem yv{l o p ops r b rs pos}(h:bk M A (cn l env) (λa c=>bk M A (jQ pos a (o::p::ops) (cn r env::cn b env::nD rs env)) Q E c) E s)(m:lastMarks (o::p::ops) (r::b::rs)=ai):bk M A (cn (.Compare l (o::p::ops) (r::b::rs) pos) env) Q E s:=by
 show bk M A (do jQ pos (<-cn l env) (o::p::ops) (markedEach (o::p::ops) (r::b::rs) (nD (r::b::rs) env))) Q E s
 rw[W7 _ _ _ m];exact aj h
theorem Al{l o p ops r b rs pos e}(h:bk M A (cn l env) (λa c=>bk M A (o7 pos a (o::p::ops) (cn r env::cn b env::nD rs env)) Q E c) E s)(m:lastMarks (o::p::ops) (r::b::rs)=ai):bk M A (isTrue (.Compare l (o::p::ops) (r::b::rs) pos) env e) Q E s:=by
 show bk M A (do o7 pos (<-cn l env) (o::p::ops) (markedEach (o::p::ops) (r::b::rs) (nD (r::b::rs) env))) Q E s
 rw[W7 _ _ _ m];exact aj h
theorem D_(h:bk M A r (λb c=>bk M A (cq op a b) Q E c) E s):bk M A (jQ pos a [op] [r]) Q E s:=by
 show bk M A (do
  let v<-dJ [a] r
  ij pos
  operate [a,v] (cq op a v)) Q E s
 exact aj (aP (aI h (λb c d=>aj (a8 (lC d))) lV))
theorem D'(h:bk M A r (λb e=>bk M A (cq op a b) (λc f=>bk M A (iB c) (λt d=>if t then bk M A (jQ pos b (o::ops) (r' ::rs)) Q E d else Q c d) E f) E e) E s):
  bk M A (jQ pos a (op::o::ops) (r::r' ::rs)) Q E s:=by
 show bk M A (do
  let v<-dJ [a] r
  ij pos
  let c<-dJ [a,v] (cq op a v)
  release [a,v] [c]
  if<-dJ [c,v] (iB c) then jQ pos v (o::ops) (r' ::rs) else pure c) Q E s
 refine aj (aP (aI h (λb e i=>aj (a8 (aj (aP (aI i (λc f j=>aj (aT (wO (aj (aP (aI j (λt d g=>?_) lV)))))) lV))))) lV))
 induction t with
 |false=>exact aO g|true=>exact g
theorem GK(h:bk M A r (λb d=>bk M A (cq op a b) (λc e=>bk M A (iB c) Q E e) E d) E s):bk M A (o7 pos a [op] [r]) Q E s:=by
 show bk M A (do
  let v<-dJ [a] r
  ij pos
  let c<-operate [a,v] (cq op a v)
  dJ [c] (iB c)) Q E s
 exact aj (aP (aI h (λb d f=>aj (a8 (aj (lC (aI f (λc e g=>aP g) lV))))) lV))
theorem GL(h:bk M A r (λb e=>bk M A (cq op a b) (λc f=>bk M A (iB c) (λt d=>if t then bk M A (o7 pos b (o::ops) (r' ::rs)) Q E d else Q ai d) E f) E e) E s):
  bk M A (o7 pos a (op::o::ops) (r::r' ::rs)) Q E s:=by
 show bk M A (do
  let v<-dJ [a] r
  ij pos
  let c<-dJ [a,v] (cq op a v)
  release [a,v] [c]
  if<-dJ [c,v] (iB c) then o7 pos v (o::ops) (r' ::rs) else pure ai) Q E s
 refine aj (aP (aI h (λb e i=>aj (a8 (aj (aP (aI i (λc f j=>aj (aT (wO (aj (aP (aI j (λt d g=>?_) lV)))))) lV))))) lV))
 induction t with
 |false=>exact aO g|true=>exact g
theorem Kr(h:bk M A (isTrue t env (cn t env)) (λb a=>if b then bk M A (cn body env) Q E a else bk M A (cn o env) Q E a) E s):
  bk M A (cn (.IfExp t body o pos) env) Q E s:=by
 rw[arm_eval_IfExp];refine aj (aI h (λb a c=>?_) lV);rcases b<;>exact c
theorem yw{Q:aE->ah->Prop}(h:bk M A (isTrue x env (cn x env)) (λb a=>Q (!b) a) E s):bk M A (isTrue (.UnaryOp .Not x pos) env o) Q E s:=by
 rw[arm_isTrue_UnaryOp];exact aj (aI h (λb a c=>aO c) lV)
theorem nQ(h:bk M A (tU op v env) Q E s):bk M A (isTrue (.BoolOp op v pos) env o) Q E s:=by
 rw[arm_isTrue_BoolOp];exact h
theorem vH(h:bk M A o (λv a=>bk M A (iB v) Q E a) E s)(he:isTrue e env o=(do let v<-o;ij e.pos;dJ [v] (iB v))):
  bk M A (isTrue e env o) Q E s:=by
 refine uo he ?_;exact aj (aI h (λv a b=>aj (a8 (aP b))) lV)
theorem qM(h:bk M A (isTrue x env (cn x env)) (λb a=>if b then bk M A (tU .And rest env) Q E a else Q ai a) E s):bk M A (tU .And (x::rest) env) Q E s:=by
 rw[arm_allTrue_cons];refine aj (aI h (λb a c=>?_) lV);rcases b
 ·exact aO c
 ·exact c
theorem r9(h:bk M A (isTrue x env (cn x env)) (λb a=>if b then Q aq a else bk M A (tU .Or rest env) Q E a) E s):bk M A (tU .Or (x::rest) env) Q E s:=by
 rw[arm_allTrue_cons];refine aj (aI h (λb a c=>?_) lV);rcases b
 ·exact c
 ·exact aO c
theorem tq{Q:ag->ah->Prop}(h:Q (.ref s.heap.objs.size) {s with heap:=s.heap.push {cls:=.type T,data}})(d:sizeOk data):bk M A (newObj (.type T) data aw) Q E s:=aT (qA h d)
theorem NA{Q:ag->ah->Prop}(h:bk M A (oV (f6 pos (dm e env))) (λvs a=>vs.length<=ec/\Q (.ref a.heap.objs.size) {a with heap:=a.heap.push {cls:=.type "list",data:=.seq vs.toArray}}) E s):bk M A (cn (.List e pos) env) Q E s:=by
 rw[arm_eval_List];exact aj (a8 (aj (aI h (λvs a b=>tq b.2 (by show vs.toArray.size<=ec;rw[a7];exact b.1)) lV)))
theorem Ks{Q:ag->ah->Prop}(h:bk M A (oV (f6 pos (dm e env))) (λvs a=>vs.length<=ec/\Q (.ref a.heap.objs.size) {a with heap:=a.heap.push {cls:=.type "tuple",data:=.seq vs.toArray}}) E s):bk M A (cn (.Tuple e k pos) env) Q E s:=by
 rw[arm_eval_Tuple];exact aj (a8 (aj (aI h (λvs a b=>tq b.2 (by show vs.toArray.size<=ec;rw[a7];exact b.1)) lV)))
theorem mS{Q:ab ag->ah->Prop}(h:bk M A (cn e env) (λv a=>bk M A (oV (f6 pos (dm rest env))) (λvs b=>Q (v::vs) b) E a) E s)(he:dm (e::rest) env=(ai,cn e env)::dm rest env):bk M A (oV (f6 pos (dm (e::rest) env))) Q E s:=by
 rw[he];show bk M A (do
  let v<-cn e env
  let r<-(pure [v]:Sem (ab ag))
  return r++(<-dJ r (oV (f6 pos (dm rest env))))) Q E s
 exact aj (aI h (λv a c=>aj (aO (aj (aP (aI c (λvs b d=>aO d) lV))))) lV)
theorem n7{Q:ab ag->ah->Prop}(h:Q [] s):bk M A (oV (f6 pos (dm [] env))) Q E s:=aT (wpAny_items_nil h)
theorem vI{o e F8:ao aQ}{p:Pos}{Q:ag->ah->Prop}(h:bk M A (qB (Gn o env)) (λl b=>bk M A (qB (Gn e env)) (λu c=>bk M A (qB (Gn F8 env)) (λst a=>
   Q (.ref a.heap.objs.size) {a with heap:=a.heap.push {cls:=.type "slice",data:=.fields #[l,u,st]}}) E c) E b) E s):bk M A (cn (.Slice o e F8 p) env) Q E s:=by
 rw[arm_eval_Slice];exact aj (aI h (λl b d=>aj (aP (aI d (λu c f=>aj (aP (aI f (λst a g=>tq g (by size_fits)) lV))) lV))) lV)
theorem jr{Q:Args->ah->Prop}(h:bk M A (oV ((ai,x)::rest)) (λvs a=>Q ⟨vs,[]⟩ a) E s):bk M A (VG f aq ((ai,x)::rest) []) Q E s:=by
 refine aj (aI h (λvs a h' =>?_) lV);refine aP ?_;exact aj (aO (aj (aO (aO h'))))
theorem j3{P:bJ->Prop}(p:(args.any (·.1) ||e.any (·.1.isNone))=ai)(n:∀h,P h->∃k,(k=W8\/k=RW\/k=Mn)/\Iv M h (Iw f) k)(h:bk M A (VG f aq args e) (λa b=>P b.heap/\bk M A (call f (first++a.pos) a.kw) Q E b) E s):bk M A (h7 pos f first args e) Q E s:=by
 unfold h7;refine aj (aP (aI h (λa b d=>aj (a8 ?_)) lV));refine ck λo=>?_;obtain⟨k,j,L⟩:=n _ d.1;refine o ?_;rw[p];refine aj (m:=Iw f) (aT (L.here ?_));have i:∀{t:Sem ag},bk M A t Q E b->bk M A (t>>=λr=>dJ [r] point>>=λι=>pure r) Q E b:=
  λq=>aj (aI q (λr l u=>aj (aP (vG (aO u)))) lV)
 have g (mk:ag):bk M A (callMarked mk f (first++a.pos) a.kw) Q E b:=by unfold callMarked;exact Nw d.2
 rcases j with rfl|rfl|rfl
 ·by_cases c:args.length+2*e.length>30
  ·exact Cs c (i d.2)
  ·exact jq c (i (g _))
 ·exact i d.2
 ·by_cases c:args.length+2*e.length>30
  ·exact Cs c (i d.2)
  ·exact jq c (i (g _))
theorem Cu(h:bk M A (storeName env x v) Q E s):bk M A (fx (.Name x pos) env v) Q E s:=by
 rw[arm_assign_Name];exact aj (a8 (um h))
theorem gQ{Q:tT->ah->Prop}(h:Q .next s):bk M A (eY [] env) Q E s:=aT (wpAny_execs_nil h)
theorem ek{st rest}{Q:tT->ah->Prop}(h:bk M A (oW st env) (λf a=>match f with|.next=>bk M A (eY rest env) Q E a|f=>Q f a) E s):bk M A (eY (st::rest) env) Q E s:=by
 rw[execs_cons];refine aj (aI h (λf a h' =>?_) lV);rcases f<;>first|exact h' |exact aO h'
theorem NB{t body o pos}(h:bk M A (isTrue t env (cn t env)) (λb a=>if b then bk M A (eY body env) Q E a else bk M A (eY o env) Q E a) E s):bk M A (oW (.If t body o pos) env) Q E s:=by
 rw[exec_If];refine aj (a8 (aj (aI h (λb a c=>?_) lV)));rcases b<;>exact c
theorem xB{e pos}{Q:tT->ah->Prop}(h:bk M A (cn e env) (λv=>Q (.ret v)) E s):bk M A (oW (.Return (aa e) pos) env) Q E s:=by
 rw[exec_Return_some];exact aj (a8 (aj (aI h (λv b a=>aO a) lV)))
theorem j4{Q:tT->ah->Prop}(h:bk M A (cn a env) (λv b=>bk M A (assignAll v ((hX t env).map (·.2))) (λι=>Q .next) E b) E s)(d:yh t a pos.line env=pure ai)(e:rd t a env=pure aw):bk M A (oW (.Assign t a pos) env) Q E s:=by
 rw[exec_Assign_arm];refine aj (a8 ?_);rw[d];refine aj (aO ?_);refine jq (by decide) ?_
 refine aj (aI h (λv b c=>?_) lV);rw[e];refine aj (aO ?_);show bk M A (do assignAll v ((hX t env).map (·.2));pure .next) Q E b
 exact aj (aI c (λι ι x=>aO x) lV)
theorem ql{e k t a pos}{Q:tT->ah->Prop}(h:bk M A (cn a env) (λv b=>bk M A (unpackItems v names.length aw) (λitems c=>bk M A (gD (names.reverse.map λn=>sj env n) items.reverse) (λι=>Q .next) E c) E b) E s)(g:yh [.Tuple e k t] a pos.line env=pure ai)(i:rd [.Tuple e k t] a env=pure (aa names)):bk M A (oW (.Assign [.Tuple e k t] a pos) env) Q E s:=by
 rw[exec_Assign_arm];refine aj (a8 ?_);rw[g];refine aj (aO ?_);refine jq (by decide) ?_
 refine aj (aI h (λv b d=>?_) lV);rw[i];refine aj (aO ?_);show bk M A (do VE "assign.swapped-stores";let items<-unpackItems v names.length aw;gD (names.reverse.map λn=>sj env n) items.reverse;pure .next) Q E b
 exact aj (lD (aj (aI d (λitems c f=>aj (aI f (λι ι x=>aO x) lV)) lV)))
theorem Ja{t iter body o pos}{Q:tT->ah->Prop}(h:bk M A (cn iter env) (λx a=>bk M A (kY x) (λit b=>dg M A (.forLoop t it body o env) (λr g=>match r with|.ok f=>Q f g|.error e=>gJ M A env E e g) b) E a) E s)(i:∀x,mf iter env x=pure x):bk M A (oW (.For t iter body o pos) env) Q E s:=by
 rw[exec_For];exact aj (a8 (aj (aI h (λx a c=>aj (fE (i x) (aj (a8 (aj (aP (aI c (λit b d=>tp d nofun) lV))))))) lV)))
theorem Kt{t body o pos}{Q:tT->ah->Prop}(h:dg M A (.whileLoop t body o env) (λr a=>match r with|.ok f=>Q f a|.error e=>gJ M A env E e a) s):bk M A (oW (.While t body o pos) env) Q E s:=by
 rw[exec_While];exact aj (a8 (tp h nofun))
end
section
variable{prog:bS}{w:bU}{A:aW}{E:ag->ah->Prop}{s:ah}{env:Env}{R:c8->ah->Prop}
theorem yx(h:bk (bK prog w) A (cn v env) (λo b=>bk (bK prog w) A (Q8 o a aq) Q E b) E s)(he:cn (.Attribute v a pos) env=(do
   let o<-cn v env
   ij pos.atName
   let r<-dJ [o] (Q8 o a aq)
   wQ v o r
   pure r)):bk (bK prog w) A (cn (.Attribute v a pos) env) Q E s:=by
 refine uo he ?_;refine aj (aI h (λo b c=>aj (a8 (aj (aP (aI c (λr e d=>?_) lV))))) lV);exact aj (aT (wpAny_letTemporaryGo (aO d)))
theorem uq{e pos}{Q:tT->ah->Prop}(h:bk (bK prog w) A (cn e env) (λι=>Q .next) E s)(i:wR env=ai)(a:ML e aw pos.line env=pure ai):bk (bK prog w) A (oW (.Expr e pos) env) Q E s:=by
 rw[exec_Expr env e pos i a];exact aj (a8 (aj (aI h (λv b h' =>aT (wpAny_dropValue h')) lV)))
theorem vJ{x1}(b:A.handled=aw)(c:s.heap.IsTuple t items)(n:(hX e env).length=items.size)(a:(hX e env).findIdx? (·.1)=aw)(h:∀h',bJ.ExtBut s.heap.objs.size s.heap h'->bk (bK prog w) A (gD ((hX e env).map (·.2)) items.toList) Q E {s with heap:=h'}):bk (bK prog w) A (fx (.Tuple e x1 pos) env (.ref t)) Q E s:=by
 rw[arm_assign_Tuple];refine aj (a8 ?_);unfold unpack;rw[n,a];exact aj (aP (aT (wpAny_unpackItems_tuple b c h)))
theorem Ea{R:c8->ah->Prop}(h:bk (bK prog w) A (eY t env) (λf a=>R (.ok f) a) (lE (bK prog w) A env λe a=>R (.error e) a) s):dg (bK prog w) A (.block t env) R s:=by
 refine dN rfl ?_;show bk _ _ (do return Fin.done (<-(eY t env).onRaise (λx=>do i9 x env;oq x))) _ _ s
 exact aj (rm (aI h (λf a h' =>aO h') λι ι h' =>h'))
theorem GN(h:bk (bK prog w) (A.deeper env) (eY body env) (λf b=>R (.ok (.ret (match f with|.ret v=>v|_=>.none))) b)
   (λe b=>bk (bK prog w) (A.deeper env) (oX env e) (λι a=>R (.error e) a) (λc a=>R (.error c) a) b) s):dg (bK prog w) A (.func body env) R s:=by
 refine dN rfl ?_;show bk _ (A.deeper env) (do point;match<-(eY body env).onRaise (oX env) with|.ret v=>ret v|_=>ret .none) _ _ s
 refine aj (vG (aj (jF (aI h (λf b h' =>?_) λι ι h' =>h'))));rcases f<;>exact aO h'
def iN(p:bS)(b:bU)(d:aW)(f:c8->ah->Prop)(a:aB)(r:Args)(o:Obj)(g:gU)(y:ab cF):Prop:=∀{s:ah}(m:d.depth<mh)(u:s.heap.get? a=aa o)(l:o.data=.func g)(q:g.scope.isCoroutine=ai)(n:g.scope.isGenerator=ai)(j:g.body=.stmts y)(t:s.heap.CodeRec g.code g.qualname)(h:bk (bK p b) d.in1 (Iy g r) (λbinds i=>bk (bK p b) d.in1 (pQ g.scope g.globals g.closure binds (g.qualname++".<locals>.") (aa a) g.code aw g.builtins)
    (λenv c=>c.heap.NoLimit/\dg (bK p b) d (.func y env) f c) (λe k=>f (.error e) k) i) (λe k=>f (.error e) k) s),dg (bK p b) d (.call (.ref a) r) f s
def lG:=λx:((_×_)×_×_)×(_×_)×_×_×_=>iN x.1.1.1 x.1.1.2 x.1.2.1 x.1.2.2 x.2.1.1 x.2.1.2 x.2.2.1 x.2.2.2.1 x.2.2.2.2
def di:=haveI:=iG;haveI:=eI;qy bB lG
namespace lH
def p:=di.1.1.1
def b:=di.1.1.2
def d:=di.1.2.1
def f:=di.1.2.2
def a:=di.2.1.1
def r:=di.2.1.2
def o:=di.2.2.1
def g:=di.2.2.2.1
def y:=di.2.2.2.2
theorem ok:iN p b d f a r o g y:=by
 intro s i D l q n j t h;refine dN rfl ?_;show bk _ d.in1 (callAny (.ref a) r) _ _ s;refine aj (aT (m9 D ?_));refine ck λF=>?_;obtain⟨c,H,vs,I,x,u,v,G⟩:=t;refine F ?_;rw[l];show bk _ _ (callFunction a g r) _ _ s;unfold callFunction;rw[q,n,j,x];rw[x]at h;refine aj (m:=field (.ref c) 1) (aT (hE u v G (aj (aO ?_))));exact aj (aI h (λbinds z k=>aj (aI k (λenv C e=>aj (aT (wpAny_enterFrame e.1 i (aO (And.intro rfl e.2))))) λι ι h' =>h')) λι ι h' =>h')
end lH
theorem r_:iN prog w A R a args o f body:=@d5 _ _ lG @lH.ok (((prog,w),A,R),(a,args),o,f,body)
theorem sy{id:cZ}{args:Args}{b:Builtin}(ok:RM (.builtin id args)=aq)(hb:nE yf id=aa b)(h:bk (bK prog w) (A.under (.builtin id args)) (b args) (λfin a=>match fin with|.done f=>R (.ok f) a|.again c=>c.quiet=aq/\dg (bK prog w) A c R a) (λe a=>R (.error e) a) s):
  dg (bK prog w) A (.builtin id args) R s:=by
 refine dN ok ?_;show bk _ _ (match nE yf id with|some b=>b args|none=>unsupported ((withoutEnding? id "#data").getD id)) _ _ s
 rw[hb];exact h
theorem gn{id:cZ}{args:Args}{b:Builtin}(ok:RM (.builtin id args)=aq)(q:(kD id args).quiet=aq)(hb:nE yf id=aa b)(h:bk (bK prog w) A.in1 (checkBuiltinCall id args) (λι a=>bk (bK prog w) (A.under (.builtin id args)) (b args)
   (λfin c=>match fin with|.done f=>R (.ok f) c|.again g=>g.quiet=aq/\dg (bK prog w) A g R c) (λe c=>R (.error e) c) a) (λe c=>R (.error e) c) s):dg (bK prog w) A (.call (.builtin id) args) R s:=by
 refine dN rfl ?_;show bk _ A.in1 (do checkBuiltinCall id args;again (.builtin id args)) _ _ s
 exact aj (aI h (λι a d=>aO (And.intro q (sy ok hb d))) λι ι h' =>h')
end
section
def vK(M:dZ)(A:aW)(E:ag->ah->Prop)(use:ao (ag->Sem jb))(Q:ag->ah->Prop)(acc:ag)(C:aB)(r:c8)(a:ah):Prop:=
 match r,use with
 |.ok c,aw=>∃m,a.heap.Ns C m/\∀h',dy C a.heap h'->Q acc {a with heap:=h'}
 |.ok c,aa u=>bk M A (u acc) (λι b=>∃m,b.heap.Ns C m/\∀h',dy C b.heap h'->Q .none {b with heap:=h'}) E a
 |.error x,c=>∃m,a.heap.Ns C m/\∀h',dy C a.heap h'->∀cenv:Env,cenv.locals=C->bk M A (passOn "comprehension.variables-let-go" x cenv:Sem ag) (λι ι=>jD) E {a with heap:=h'}
section
variable{M:dZ}{A:aW}{E:ag->ah->Prop}{s:ah}{env:Env}
def hh(a:dZ)(b:aW)(c:ag->ah->Prop)(v:Env)(e:aQ)(o:jB)(w:Sem ag)(l:ab (Str×aB))(Q:ag->ah->Prop):Prop:=∀{s:ah}{pos:Pos}{first:Sem ag}{g:bX}{p:ab bX}{use:ao (ag->Sem jb)}(q:clausesOf e=g::p)(r:∀x,mf g.iter v x=pure x)(k:Iz o v=pure l)(m:o.kind=.function)(n:∀x∈o.names,x.2=.local->o.names.lookup x.1=aa .local)(h:bk a b first (λx d=>bk a b (kY x) (λit f=>bk a b w (λacc i=>bk a b (pQ o v.globals l [] v.qual aw .none (aa v)) (λcenv j=>
    dg a b (.compStart e 0 it acc {cenv with scope:=AU o v}) (vK a b c use Q acc cenv.locals) j) c i) c f) c d) c s),bk a b (Mo e o v pos w ai first use) Q c s
def jH:=λx:((_×_)×_×_)×(_×_)×_×_×_=>hh x.1.1.1 x.1.1.2 x.1.2.1 x.1.2.2 x.2.1.1 x.2.1.2 x.2.2.1 x.2.2.2.1 x.2.2.2.2
def cJ:=haveI:=uc;haveI:=eI;qy bB jH
namespace jI
def a:=cJ.1.1.1
def b:=cJ.1.1.2
def c:=cJ.1.2.1
def v:=cJ.1.2.2
def e:=cJ.2.1.1
def o:=cJ.2.1.2
def w:=cJ.2.2.1
def l:=cJ.2.2.2.1
def Q:=cJ.2.2.2.2
theorem ok:hh a b c v e o w l Q:=by
 intro s pos first g gs use P hs y i q h
 unfold Mo;rw[y,P];refine aj (aI h (λx Y C=>aj (a8 (aj (fE (hs x) (aj (aP (aI C (λit D F=>?_) lV))))))) lV);have t:bk a b (do
   let acc<-w
   let cenv<-pQ o v.globals (<-(pure l:Sem (ab (Str×aB)))) [] v.qual aw .none (aa v)
   let own (n:Str) (k:ff):=k==.free&&v.scope.kind==.function&&v.kindOf n==aa .cell
   let cenv:={cenv with scope:={o with names:=o.names.map λ(n,k)=>if own n k then(n,.cell) else(n,k)}}
   let vars:=o.names.filter λ(n,k)=>(k==.local ||k==.cell)&&n !=(".0":Str)
   let cellOf? (n:Str):ab ag:=((cenv.cells.lookup n).map cX).toList
   let O (vs:ab (Str×ff)):ab ag:=vs.flatMap λ(n,k)=>if k==.cell then cellOf? n else[]
   dJ [.ref cenv.locals] do
    match<-(dJ (acc::O vars) (run (.compStart e 0 it acc cenv))).attempt,use with
    |.ok A,aw=>dJ [acc] (pR cenv O vars.reverse);pure acc|.ok A,aa u=>
     VE "comprehension.stores-exchanged"
     dJ (O vars) (u acc)
     pR cenv O (vars.reverse.drop 1++vars.reverse.take 1)
     pure .none
    |.error x,A=>dJ [x] (pR cenv O vars.reverse);passOn "comprehension.variables-let-go" x cenv) Q c D:=by
  refine aj (aI F (λacc Z G=>aj (aO (aj (aI G (λcenv ad5 H=>?_) lV)))) lV);have L:∀x∈(o.names.filter λx=>(x.2==.local ||x.2==.cell)&&x.1 !=(".0":Str)).reverse,x.2=.local->Env.kindOf {cenv with scope:=AU o v} x.1=aa .local:=
   λx S N=>lookup_relabel_local (q x (eZ.mp (gp.mp S)).1 N)
  have T:∀x∈(o.names.filter λx=>(x.2==.local ||x.2==.cell)&&x.1 !=(".0":Str)).reverse.drop 1++(o.names.filter λx=>(x.2==.local ||x.2==.cell)&&x.1 !=(".0":Str)).reverse.take 1,
    x.2=.local->Env.kindOf {cenv with scope:=AU o v} x.1=aa .local:=λx S N=>by
   rcases bE.mp S with U|U
   ·exact L x (s6 U) N
   ·exact L x (Kc U) N
  dsimp only;refine aP (aj (nO (aP (I_ (ph H λr I z=>?_) nofun))))
  induction r with
  |ok f=>
   cases use with
   |none=>
    refine ck λkk=>?_;obtain⟨m,J,z⟩:=z;refine kk ?_;exact aj (aP (aT (DD (cenv:={cenv with scope:=AU o v}) i _ I m L J λh' m' ι d=>aO (z h' d))))
   |some u=>
    refine aj (lD (aj (aP (aI z (λι W j=>?_) lV))));obtain⟨m,J,j⟩:=j;exact aj (aT (DD (cenv:={cenv with scope:=AU o v}) i _ W m T J λh' m' ι d=>aO (j h' d)))
  |error x=>
   have j:∃m,I.heap.Ns cenv.locals m/\∀h',dy cenv.locals I.heap h'->∀p:Env,p.locals=cenv.locals->bk a b (passOn "comprehension.variables-let-go" x p:Sem ag) (λι ι=>jD) c {I with heap:=h'}:=by
    cases use<;>exact z
   clear z;obtain⟨m,J,X⟩:=j;rcases use<;>exact aj (aP (aT (DD (cenv:={cenv with scope:=AU o v}) i _ I m L J λh' m' ι d=>aI (X h' d _ rfl) (λι ι f=>f.elim) lV)))
 split
 ·exact aj (a8 t)
 ·exact t
end jI
theorem j5:hh M A E env e scope n c Q:=@d5 _ _ jH @jI.ok (((M,A),E,env),(e,scope),n,c,Q)
end
section
variable{prog:bS}{w:bU}{A:aW}{E:ag->ah->Prop}{s:ah}{env:Env}{R:c8->ah->Prop}
end
end
section
variable{M:dZ}{A:aW}{E:ag->ah->Prop}{s:ah}{α:Type}
theorem Ku{k:Obj->Sem α}(f:s.heap.get? a=aa o)(h:bk M A (k o) Q E s):bk M A (.load a e k) Q E s:=λi p b c=>by
 rw[Sem.wp_load];exact⟨o,f,h i p b c⟩
end
section
variable{prog:bS}{w:bU}{A:aW}{E:ag->ah->Prop}{C:aB}{R:c8->ah->Prop}{h:bJ}{g:Array gu}{d:ou}{t:ae}{os:eT}
def qN(p:bS)(c:bU)(f:aW)(i:aB)(j:c8->ah->Prop)(l:bJ)(s:ab ag)(m:ab (Str×ag)):Prop:=∀{g:Array gu}{d:ou}{t:ae}{os:eT}{n:ag}(Y:Makes (bK p c) l i)(a:Iv (bK p c) l (dQ (.ref i) "__init__") (aa n))(hb:∀self,Iv (bK p c) l (bindSpecial n self) (n,[self]))(e:(aa n !=aa (ag.builtin "object.__init__"))=aq\/(s=[]/\m=[]))(q:dg (bK p c) (f.under (.builtin "type.__call__" ⟨.ref i::s,m⟩)) (.call n ⟨.ref (l.objs.size+1)::s,m⟩) (InitBack (l.objs.size+1) j) ⟨(l.push m_).push (qC i l.objs.size),g,d,t,os⟩),dg (bK p c) f (.call (.ref i) ⟨s,m⟩) j ⟨l,g,d,t,os⟩
def xc:=λx:((_×_)×_×_)×(_×_)×_×_=>qN x.1.1.1 x.1.1.2 x.1.2.1 x.1.2.2 x.2.1.1 x.2.1.2 x.2.2.1 x.2.2.2
def hJ:=haveI:=iG;haveI:=eI;qy bB xc
namespace xd
def p:=hJ.1.1.1
def c:=hJ.1.1.2
def f:=hJ.1.2.1
def i:=hJ.1.2.2
def j:=hJ.2.1.1
def l:=hJ.2.1.2
def s:=hJ.2.2.1
def m:=hJ.2.2.2
theorem ok:qN p c f i j l s m:=by
 intro g d t os u Y x hb q D;have F:=Y;refine ck λG=>?_;obtain⟨⟨I,od,H,sl,hC,e1,e2,e4⟩,n,base,self,top,call,y⟩:=Y;refine G ?_;refine dN rfl ?_;refine Ku hC ?_;show bk _ _ (callAny.viaDunder (.ref i) _) _ _ _;refine aj (aT (call.at ?_));dsimp only;rw[tc_bind];refine aj (aO (aj (aO ?_)));refine aO (a:=Fin.again (.call (.builtin "type.__call__") ⟨.ref i::s,m⟩)) (And.intro rfl ?_);refine gn (id:="type.__call__") (by show(!pg.contains "type.__call__")=aq;decide) (nZ _ (by decide+kernel)) entry_typeCall (aT (check_slot tc_kind tc_split y (tc_args _ _ _) ?_))
 refine aj (aT ((((Iv.ld (part:=aw) hC).andThen .now).andThen .now:Iv (bK p c) l (mroOf (.ref i)) H.mro).at ?_));simp only[e4,ft,pP];refine aj (aT (n.at ?_));refine aj (aO ?_);refine aj (aP (ib (D7 (new_K F x q ?_))));have k:∀b o,l.get? b=aa o->((l.push m_).push (qC i l.objs.size)).get? b=aa o:=λb o e=>bf _ (bf _ e);have t1:Iv (bK p c) ((l.push m_).push (qC i l.objs.size)) (IA (.ref (l.objs.size+1))) (.ref i):=(Iv.ld (by heap_get:((l.push m_).push (qC i l.objs.size)).get? (l.objs.size+1)=aa (qC i l.objs.size))).andThen .now
 refine aj (aj (aT (t1.at (aT ((self.keeps k).at ?_)))));refine aj (aP ?_);refine aj (aj (aT (t1.at (aT ((x.keeps k).at ?_)))));refine aP (aj (aT (((hb (.ref (l.objs.size+1))).keeps k).at ?_)));refine aj (ib (ph D λr J z=>?_));rcases r with e|(v|_|_|_)<;>first|exact z|exact z.elim|skip
 obtain⟨rfl,z⟩:=z;exact aO (aO z)
end xd
theorem GP:qN prog w A C R h rest k:=@d5 _ _ xc @xd.ok (((prog,w),A,C),(R,h),rest,k)
end
noncomputable abbrev PW:bS:=ba
noncomputable abbrev Md(w:bU):dZ:=bK PW w
structure Gm where
 X:Ctx
 w:bU
 b:ah
theorem Am:iA Gm:=iG.elim λw=>⟨⟨⟨{},λι=>.none,λι=>0,λι=>0,λι=>.none⟩,w,{}⟩⟩
structure Kf where
 ρ:fO
 h:bJ
 tk:ae
theorem Cv:iA Kf:=⟨⟨[],{},0⟩⟩
noncomputable abbrev sh(b:ah)(k:Kf):ah:={b with heap:=k.h,toks:=k.tk}
abbrev Le(k k' :Kf):Prop:=bY k.ρ k.h k'.ρ k'.h []
abbrev SR(G:Gm)(k:Kf)(σ:St):Prop:=h5 G.X G.w.params k.ρ σ k.h
abbrev RV(G:Gm)(k:Kf)(v:V)(u:ag):Prop:=iU G.X k.ρ k.h v u
abbrev RL(G:Gm)(k:Kf)(v:V)(us:ab ag):Prop:=gi G.X k.ρ k.h v us
abbrev pj(G:Gm)(k:Kf)(vs:ab V)(us:ab ag):Prop:=RL G k (cu vs) us
abbrev RB(_:Kf)(a b:aE):Prop:=a=b
abbrev RU(_:Kf)(_ _:jb):Prop:=True
structure el(A:aW)(n:ae):Prop where
 handled:A.handled=aw
 depth:A.depth+n<mh
 units:A.units+16*n<cLine
theorem el.less(r:el A n)(l:m<=n):el A m:=⟨r.handled,cD (nk l _) r.depth,cD (nk (aeg 16 l) _) r.units⟩
theorem el.top(r:el A n):A.depth<mh:=cD (bp A.depth n) r.depth
theorem el.add(r:el A (n+1))(h:c<=16):A.units+c+16*n<cLine:=
 cD (bq (iz (P' A.units c (16*n))) (nk (bq (iz (nM c (16*n))) (nk h (16*n))) A.units)) r.units
theorem el.one(r:el A (n+1)):A.depth+1+n<mh:=cD (iz (Rp A.depth 1 n)) r.depth
theorem el.deep(r:el A (n+1))(env:Env):el (A.deeper env) n:=⟨r.handled,r.one,r.add (c:=3) (by decide)⟩
theorem adZ{j m L c N:ae}(h:j<=m)(a:m<=L)(b:c=m - j)(e:L<=N):min j L+(c+(L - m))<=N:=
 bq (aef (Xj j L) _) (by rw[b,<-P',vo h,vo a];exact e)
def aN(G:Gm)(n:ae)(k:Kf)(σ:St){α β:Type}(c:Rm α)(rep:Kf->α->β->Prop)(t:Sem β):Prop:=
 ∀a τ,c σ=aa (a,τ)->SR G k σ->∀A Q E,el A n->(∀v k',Le k k'->SR G k' τ->rep k' a v->Q v (sh G.b k'))->bk (Md G.w) A t Q E (sh G.b k)
section
variable{G:Gm}{n m:ae}{k k' k₂:Kf}{σ:St}{α β γ δ:Type}{c d:Rm α}{rep:Kf->α->β->Prop}{t:Sem β}
theorem Le.refl(k:Kf):Le k k:=bY.refl _ _ _
inductive Bnd(c:Rm α)(f:α->Rm γ)(σ:St)(x:γ)(τ:St):Prop
 |mk (a:α) (Eb:St) (fst:c σ=aa (a,Eb)) (snd:f a Eb=aa (x,τ))
inductive ac1(o:ao γ)(f:γ->Rm α)(σ:St)(x:α×St):Prop
 |mk (a:γ) (fst:o=aa a) (snd:f a σ=aa x)
theorem br(h:b8 c f σ=aa (x,τ)):Bnd c f σ x τ:=by
 unfold b8 at h
 induction e:c σ with
 |none=>exact b6 (e▸h)|some p=>rw[e]at h;exact⟨p.1,p.2,e,h⟩
theorem lb(e:opt o f σ=aa x):ac1 o f σ x:=by
 induction o with
 |none=>exact b6 e|some a=>exact⟨a,rfl,e⟩
theorem Sx(e:eB b c σ=aa x):b=aq/\c σ=aa x:=by
 induction b with
 |false=>exact b6 e|true=>exact⟨rfl,e⟩
theorem aN.less(h:aN G n k σ c rep t)(l:n<=m):aN G m k σ c rep t:=λa τ e S A Q E R q=>h a τ e S A Q E (R.less l) q
theorem aN.bW:aN G n k σ (bW:Rm α) rep t:=λι ι e=>b6 e
theorem aN.eB(h:b=aq->aN G n k σ c rep t):aN G n k σ (eB b c) rep t:=by
 cases b with
 |true=>exact h rfl|false=>exact aN.bW
theorem aN.opt{f:γ->Rm α}(h:∀x,o=aa x->aN G n k σ (f x) rep t):aN G n k σ (opt o f) rep t:=by
 cases o with
 |none=>exact aN.bW|some x=>exact h x rfl
theorem aN.cS(h:b=aq->aN G n k σ c rep t)(a:b=ai->aN G n k σ d rep t):aN G n k σ (cS b c d) rep t:=by
 cases b with
 |true=>exact h rfl|false=>exact a rfl
theorem aN.alt(h:aN G n k σ c rep t)(b:aN G n k σ d rep t):aN G n k σ (alt c d) rep t:=λa τ e=>by
 unfold M.Internal.alt at e
 cases q:c σ with
 |none=>rw[q]at e;exact b a τ e|some p=>rw[q]at e;cases e;exact h a τ q
theorem aN.imp{p:Kf->α->β->Prop}(h:aN G n k σ c rep t)(i:∀k' a v,Le k k'->rep k' a v->p k' a v):aN G n k σ c p t:=λa τ e S A Q E R q=>h a τ e S A Q E R λv k' l S r=>q v k' l S (i k' a v l r)
theorem aN.bind{f:α->Rm γ}{u:β->Sem δ}(h:aN G n k σ c rep t)(hf:∀a b v k₁,Le k k₁->rep k₁ a v->aN G n k₁ b (f a) p (u v)):aN G n k σ (b8 c f) p (t>>=u):=λx τ e S A Q E R q=>by
 refine ck λj=>?_;obtain⟨a,b,e1,e2⟩:=br e;refine j ?_;exact aj (h a b e1 S A _ E R λv k₁ l g r=>hf a b v k₁ l r x τ e2 g A Q E R λy k₂ i=>q y k₂ (l.trans i))
theorem aN.post{f:α->Rm γ}{p:Kf->γ->β->Prop}(h:aN G n k σ c rep t)(hf:∀a b v k₁,Le k k₁->rep k₁ a v->SR G k₁ b->∀x τ,f a b=aa (x,τ)->∃g,∃l:bY k₁.ρ k₁.h g k₁.h [],h5 G.X G.w.params g τ k₁.h/\p ⟨g,k₁.h,k₁.tk⟩ x v):aN G n k σ (b8 c f) p t:=λx τ e S A Q E R q=>by
 refine ck λy=>?_;obtain⟨a,b,e1,e2⟩:=br e;refine y ?_;exact h a b e1 S A _ E R λv k₁ l i r=>by
  refine ck λy=>?_;obtain⟨g,j,o,s⟩:=hf a b v k₁ l r i x τ e2;refine y ?_;exact q v ⟨g,k₁.h,k₁.tk⟩ (l.trans j) o s
theorem aN.map{f:α->γ}{p:Kf->γ->β->Prop}(h:aN G n k σ c rep t)(i:∀k' a v,Le k k'->rep k' a v->p k' (f a) v):aN G n k σ (b8 c λa=>rt (f a)) p t:=
 h.post λa b v k₁ l r S x τ e=>by obtain⟨rfl,rfl⟩:=av (af e);exact⟨k₁.ρ,bY.refl _ _ _,S,i k₁ a v l r⟩
theorem aN.pure(h:rep k a v):aN G n k σ (rt a) rep (Pure.pure v):=λx τ e S A Q E R q=>by obtain⟨rfl,rfl⟩:=av (af e);exact aO (q v k (Le.refl k) S h)
theorem aN.leaf(h:∀A Q E,el A n->(∀v tk,rep ⟨k.ρ,k.h,tk⟩ a v->Q v {sh G.b k with toks:=tk})->bO (Md G.w) A t Q E (sh G.b k)):aN G n k σ (rt a) rep t:=λx τ e S A Q E R q=>by
 refine ck λf=>?_;obtain⟨rfl,rfl⟩:=av (af e);refine f ?_;exact aT (h A Q E R λv tk r=>q v ⟨k.ρ,k.h,tk⟩ (Le.refl k) S r)
theorem aN.grown(h:∀A Q E,el A n->(∀v h' tk,(∀b o,k.h.get? b=aa o->h'.get? b=aa o)->rep ⟨k.ρ,h',tk⟩ a v->Q v {sh G.b k with heap:=h',toks:=tk})->SR G k σ->bO (Md G.w) A t Q E (sh G.b k)):aN G n k σ (rt a) rep t:=λx τ e S A Q E R q=>by
 refine ck λf=>?_;obtain⟨rfl,rfl⟩:=av (af e);refine f ?_;exact aT (h A Q E R (λv h' tk l r=>q v ⟨k.ρ,h',tk⟩ (bY.old l) (S.keeps l) r) S)
theorem aN.aaJ(h:aN G n k σ c rep t):aN G n k σ c rep (ij pos>>=λι=>t):=λa τ e S A Q E R q=>aj (a8 (h a τ e S A Q E R q))
variable{v:V}{u:ag}{T:ag->Sem β}
theorem aN.eC{f:Int->Rm α}(r:RV G k v u)(h:∀i t,aN G n k σ (f i) rep (T (.int i t))):aN G n k σ (eC v f) rep (T u):=by
 induction v using V.casesOn with
 |int i=>obtain⟨t,rfl⟩:=r;exact h i t|_=>exact aN.bW
theorem aN.ei{f:ae->Rm α}(r:RV G k v u)(h:∀i t,aN G n k σ (f i) rep (T (.int (.ofNat i) t))):aN G n k σ (ei v f) rep (T u):=by
 induction v using V.casesOn with
 |int i=>
  cases i with
  |ofNat i=>obtain⟨t,rfl⟩:=r;exact h i t|negSucc a=>exact aN.bW
 |_=>exact aN.bW
theorem aN.vC{f:aE->Rm α}(r:RV G k v u)(h:∀b,aN G n k σ (f b) rep (T (.bool b))):aN G n k σ (vC v f) rep (T u):=by
 induction v using V.casesOn with
 |bool b=>cases r;exact h b|_=>exact aN.bW
theorem aN.hH{f:ab ae->Rm α}(r:RV G k v u)(h:∀l t,aN G n k σ (f l) rep (T (.str ⟨l.toArray⟩ t))):aN G n k σ (hH v f) rep (T u):=by
 induction v using V.casesOn with
 |str l=>obtain⟨t,rfl⟩:=r;exact h l t|_=>exact aN.bW
theorem aN.fB{f:ab ae->Rm α}(r:RV G k v u)(h:∀l t,aN G n k σ (f l) rep (T (.bytes (fm G.X l).toArray t))):aN G n k σ (fB v f) rep (T u):=by
 induction v using V.casesOn with
 |eN l=>obtain⟨t,rfl⟩:=r;exact h l t|_=>exact aN.bW
theorem aN.ja(r:RV G k v u)(h:aN G n k σ c rep (T .none)):aN G n k σ (ja v c) rep (T u):=by
 induction v using V.casesOn with
 |none=>cases r;exact h|_=>exact aN.bW
structure TupAt(G:Gm)(k:Kf)(l:V)(a:aB)(us:ab ag):Prop where
 tup:k.h.IsTuple a us.toArray
 off: ¬adr k.ρ a
 rep:RL G k l us
theorem aN.mn{f:V->Rm α}(r:RV G k v u)(h:∀l a us,TupAt G k l a us->aN G n k σ (f l) rep (T (.ref a))):aN G n k σ (mn v f) rep (T u):=by
 induction v using V.casesOn with
 |tup l=>obtain⟨a,us,rfl,t,o,z,r⟩:=r;exact h l a us ⟨t,o,z,r⟩|_=>exact aN.bW
structure Jb(G:Gm)(k:Kf)(σ:St)(j:ae)(o:MO)(p:aB×aB):Prop where
 get:σ.t.get j=aa o
 sC:k.ρ[j]? =aa p
 obj:ia G.X G.w.params k.ρ k.h p o
theorem aN.jh{f:ae->MO->Rm α}(r:RV G k v u)(h:∀j o p,Jb G k σ j o p->aN G n k σ (f j o) rep (T (.ref p.1))):aN G n k σ (jh v f) rep (T u):=by
 induction v using V.casesOn with
 |a4 j=>
  obtain⟨p,hp,rfl⟩:=r;intro a τ e S;have e:@bl MO (λι=>ao (α×St)) aw (λo=>f j o σ) (σ.t.get j)=aa (a,τ):=e
  cases q:σ.t.get j with
  |none=>rw[q]at e;exact b6 e|some o=>
   rw[q]at e;obtain⟨g,b,ro⟩:=S.objs j o q
   cases hp.symm.trans b
   exact h j o p ⟨q,hp,ro⟩ a τ e S
 |_=>exact aN.bW
structure LstAt(G:Gm)(k:Kf)(σ:St)(j:ae)(l:V)(p:aB×aB)(vs:ab ag)(c:ae):Prop where
 get:σ.t.get j=aa (.list l)
 sC:k.ρ[j]? =aa p
 two:p.2=p.1
 len:vs.length<=4096
 obj:k.h.get? p.1=aa {cls:=.type "list",data:=.seq vs.toArray c}
 rep:RL G k l vs
theorem aN.cb{f:ae->V->Rm α}(r:RV G k v u)(h:∀j l p vs c,LstAt G k σ j l p vs c->aN G n k σ (f j l) rep (T (.ref p.1))):aN G n k σ (cb v f) rep (T u):=
 aN.jh r λj o p L=>by
  cases o with
  |list l=>obtain⟨e2,vs,c,z,a,y,r⟩:=L.obj;exact h j l p vs c ⟨L.get,L.sC,e2,z,a,y,r⟩|_=>exact aN.bW
abbrev RD(G:Gm)(k:Kf)(l:V)(es:ab aZ):Prop:=eJ (Rep G.X k.ρ k.h) G.w.params l es
structure ND(G:Gm)(k:Kf)(σ:St)(j:ae)(l:V)(ep:ae)(p:aB×aB)(es:ab aZ):Prop where
 get:σ.t.get j=aa (.dict l ep)
 sC:k.ρ[j]? =aa p
 two:p.2=p.1
 len:es.length<=4096
 obj:k.h.get? p.1=aa {cls:=.type "dict",data:=.dict es.toArray ep}
 rep:RD G k l es
theorem aN.fu{f:ae->V->ae->Rm α}(r:RV G k v u)(h:∀j l ep p es,ND G k σ j l ep p es->aN G n k σ (f j l ep) rep (T (.ref p.1))):aN G n k σ (fu v f) rep (T u):=
 aN.jh r λj o p L=>by
  cases o with
  |dict l ep=>obtain⟨e2,es,z,a,r⟩:=L.obj;exact h j l ep p es ⟨L.get,L.sC,e2,z,a,r⟩|_=>exact aN.bW
structure aaK(G:Gm)(k:Kf)(σ:St)(j:ae)(l:ab ae)(p:aB×aB):Prop where
 get:σ.t.get j=aa (.jv l)
 sC:k.ρ[j]? =aa p
 two:p.2=p.1
 len:l.length<=4096
 obj:k.h.get? p.1=aa {cls:=.type "bytearray",data:=.bytearray (fm G.X l).toArray 0}
theorem aN.n5{f:ae->ab ae->Rm α}(r:RV G k v u)(h:∀j l p,aaK G k σ j l p->aN G n k σ (f j l) rep (T (.ref p.1))):aN G n k σ (n5 v f) rep (T u):=
 aN.jh r λj o p L=>by
  cases o with
  |jv l=>exact h j l p ⟨L.get,L.sC,L.obj.1,L.obj.2.1,L.obj.2.2⟩|_=>exact aN.bW
structure Jc(G:Gm)(k:Kf)(σ:St)(j c:ae)(as:aX)(p:aB×aB)(m:Str->ao ag)(od:Obj)(es:Array aZ)(ep:ae):Prop where
 get:σ.t.get j=aa (.inst c as)
 sC:k.ρ[j]? =aa p
 ne:p.2≠p.1
 obj:k.h.get? p.1=aa ⟨.ref (G.X.h_ c),aa p.2,.plain,#[]⟩
 We:k.h.get? p.2=aa od
 data:od.data=.dict es ep
 len:es.size<=as.length/\es.size<=1000
 ns:k.h.Ns p.2 m
 ok:∀x v,c0 as x=aa v->XH x=aq
 rep:xa (Rep G.X k.ρ k.h) as m
theorem aN.o_{f:ae->ae->aX->Rm α}(r:RV G k v u)(h:∀j c as p m od es ep,Jc G k σ j c as p m od es ep->aN G n k σ (f j c as) rep (T (.ref p.1))):aN G n k σ (o_ v f) rep (T u):=
 aN.jh r λj o p L=>by
  cases o with
  |inst c as=>obtain⟨ne,m,a,⟨od,es,ep,b,e,g⟩,i,l,q⟩:=L.obj;exact h j c as p m od es ep ⟨L.get,L.sC,ne,a,b,e,g,i,l,q⟩|_=>exact aN.bW
theorem ox(e:new o σ=aa (v,τ)):((σ.t.set σ.n o).get σ.n).isSome=aq/\v=.a4 σ.n/\τ=⟨σ.t.set σ.n o,ar σ.n⟩:=by
 unfold new at e
 induction q:(σ.t.set σ.n o).get σ.n with
 |none=>exact b6 (q▸e)|some x=>replace e:=q▸e;obtain⟨rfl,rfl⟩:=av (af e);exact⟨rfl,rfl,rfl⟩
theorem hA:∀{us:ab ag},RL G k l us->us.length=il l:=by
 induction l with
 |nil=>intro us r;have:us=[]:=r.rep;subst this;rfl|cons a r c i=>
  rintro us ⟨z,u,s,rfl,_,b⟩;exact aY ar (i ⟨z,b⟩)
 |_=>intro us r;exact nomatch r.lst
end
section
open PySem.SeqAt
theorem fU:∀l:ab ae,ji l=l.length
 |[]=>rfl|_::r=>aY ar (fU r)
section
variable(X:Ctx)
theorem mT:∀a b:ab ae,fm X (qH a b)=fm X a++fm X b
 |[],c=>rfl|_::r,b=>aY (cQ _) (mT r b)
theorem Ec(l:ab ae):(fm X l).length=ji l:=by rw[fU];exact b9 ..
theorem Ed(l:ab ae):∀n,fm X (Gx n l)=(ab.replicate n (fm X l)).flatten
 |0=>rfl|n+1=>by
  show fm X (qH l (Gx n l))=_;rw[mT,Ed l n,ab.replicate_succ,ab.flatten_cons]
end
theorem rn:∀a b:ab ae,qH a b=a++b
 |[],c=>rfl|_::r,b=>aY (cQ _) (rn r b)
theorem pk(b:aE):dU b=!b:=by cases b<;>rfl
theorem tv(h:dU b=aq):b=ai:=by
 induction b with
 |false=>rfl|true=>exact fT h
theorem Kv(h:dU b=ai):b=aq:=by
 induction b with
 |true=>rfl|false=>exact tF h
theorem ble(h:cf a b=aq):a<=b:=bx h
theorem blt(h:bH a b=aq):a<b:=bx h
theorem fS(h:(a&&b)=aq):a=aq/\b=aq:=(d_ a b).mp h
theorem TR.js(a b:ae):au a b=decide (a=b):=by
 rw[iJ,iS];exact⟨ay,λe=>e▸eL a⟩
theorem sEq_iff:∀a b:ab ae,sEq a b=decide (a=b)
 |[],[]=>rfl|[],_::_=>rfl|_::_,[]=>rfl|a::r,b::q=>by
  show cS (au a b) (sEq r q) ai=_;rw[TR.js]
  by_cases e:a=b
  ·rw[cc e]
   show sEq r q=_;rw[sEq_iff r q,e];simp
  ·rw[bw e,bw (by simp[e])]
   rfl
theorem NF(a b:ab ae):((jc a.toArray)==(jc b.toArray))=sEq a b:=by
 rw[sEq_iff]
 by_cases e:a=b
 ·subst e;simp
 ·rw[bw e]
  refine cV.mpr λq=>e ?_;have:=aY Str.cps q;simpa using this
theorem XS(a b:ae):(bR a==bR b)=au (bz a 256) (bz b 256):=by
 have e:∀c:ae,(bR c).toNat=bz c 256:=λc=>nG;rw[iJ,eF,jd];exact⟨λh=>by rw[<-e,<-e,h],λh=>RX.mp (by rw[e,e,h])⟩
theorem Jd(X:Ctx):∀(a b:ab ae)(t:aE),V5 a b=aa t->(fm X a==fm X b)=t
 |[],[],t,h=>by obtain rfl:=af h;rfl|[],_::_,t,h=>by obtain rfl:=af h;rfl|_::_,[],t,h=>by obtain rfl:=af h;rfl|a::r,b::q,t,h=>by
  have h:cS (au (bz a 256) (bz b 256)) (V5 r q) (aa ai)=aa t:=h;show((bR a::fm X r)==(bR b::fm X q))=t;simp only[ab.cons_beq_cons,XS]
  induction e:au (bz a 256) (bz b 256) with
  |true=>replace h:=e▸h;exact Jd X r q t h|false=>replace h:=e▸h;obtain rfl:=af h;rfl
variable{X:Ctx}{w:bU}{A:aW}{s:ah}{ρ jk:fO}{h h' :bJ}{σ:St}{v:V}{E:ag->ah->Prop}
theorem EqAt.NG(h:RcAt A s (.bytes b t1) (.bytes c t2) t)(d:jX b t1=.bytes c t2->t=aq):EqAt A s (.bytes b t1) (.bytes c t2) t:=λprog w E Q q=>by
 refine dk ?_;refine wpAny_ite_split (λa=>?_) (λι=>?_)
 ·exact ak (kX (aH ((d (gd a))▸q)))
 ·exact ak (h prog w E _ (fi q))
theorem Je:∀x y:Int,Z4 x y=(x==y)
 |.ofNat m,.ofNat k=>by
  show au m k=_;rw[TR.js]
  by_cases e:m=k
  ·subst e;simp
  ·rw[bw e];symm;exact cV.mpr λq=>e (MM q)
 |.negSucc m,.negSucc k=>by
  show au m k=_;rw[TR.js]
  by_cases e:m=k
  ·subst e;simp
  ·rw[bw e];symm;exact cV.mpr λq=>e (tW.inj q)
 |.ofNat a,.negSucc b=>rfl|.negSucc a,.ofNat b=>rfl
inductive Z7:V->V->aE->Prop where
 |bool (x y):Z7 (.bool x) (.bool y) (x==y)
 |int (x y):Z7 (.int x) (.int y) (x==y)
 |str (x y):Z7 (.str x) (.str y) ((jc x.toArray)==(jc y.toArray))
 |eN {x y t} (h:V5 x y=aa t):Z7 (.eN x) (.eN y) t
 |none:Z7 .none .none aq
theorem Sy(h:eq0 a b=aa t):Z7 a b t:=by
 induction a using V.casesOn with
 |bool x=>
  induction b using V.casesOn with
  |bool y=>
   obtain rfl:(x==y)=t:=by rcases x<;>rcases y<;>exact af h
   exact .bool x y
  |_=>exact b6 h
 |int x=>
  induction b using V.casesOn with
  |int y=>
   obtain rfl:=(Je x y).symm.trans (af h);exact .int x y
  |_=>exact b6 h
 |str x=>
  induction b using V.casesOn with
  |str y=>
   obtain rfl:=(NF x y).trans (af h);exact .str x y
  |_=>exact b6 h
 |eN x=>
  induction b using V.casesOn with
  |eN y=>exact .eN h|_=>exact b6 h
 |none=>
  induction b using V.casesOn with
  |none=>
   obtain rfl:=af h;exact .none
  |_=>exact b6 h
 |_=>exact b6 h
structure EqG(A:aW)(s:ah)(u1 u2:ag)(t:aE):Prop where
 eq:EqAt A s u1 u2 t
 rc:RcAt A s u1 u2 t
 ne:RcNeAt A s u1 u2 (!t)
 same:u1=u2->t=aq
def Cw(X:Ctx)(n:ae)(f:V->V->ao aE):Prop:=
 ∀a b t,f a b=aa t->∀(A:aW)(s:ah)ρ u1 u2,A.units+n<cLine->iU X ρ s.heap a u1->iU X ρ s.heap b u2->EqG A s u1 u2 t
theorem Ee(X:Ctx)(n:ae):Cw X n eq0:=λa b t he A s ρ u1 u2 ι r c=>by
 induction Sy he with
 |bool x y=>
  obtain rfl:u1=_:=r;obtain rfl:u2=_:=c;exact⟨EqAt.bool_bool _ _,RcAt.bool_bool _ _,RcNeAt.bool_bool _ _,λq=>eF.mpr (ag.bool.inj q)⟩
 |int x y=>
  obtain⟨t1,rfl⟩:=r;obtain⟨t2,rfl⟩:=c;exact⟨EqAt.int_int _ _ _ _,RcAt.int_int _ _ _ _,RcNeAt.int_int _ _ _ _,λq=>eF.mpr (ag.int.inj q).1⟩
 |str x y=>
  obtain⟨t1,rfl⟩:=r;obtain⟨t2,rfl⟩:=c;exact⟨EqAt.str_str _ _ _ _,RcAt.str_str _ _ _ _,RcNeAt.str_str _ _ _ _,λq=>eF.mpr (ag.str.inj q).1⟩
 |@eN x y t h=>
  obtain⟨t1,rfl⟩:=r;obtain⟨t2,rfl⟩:=c;have e:((fm X x).toArray.toList==(fm X y).toArray.toList)=t:=Jd X x y t h;have rc:RcAt A s (.bytes (fm X x).toArray t1) (.bytes (fm X y).toArray t2) t:=λprog w E Q h=>eq_bytes (e▸h);have m:jX (fm X x).toArray t1=.bytes (fm X y).toArray t2->t=aq:=λq=>e.symm.trans (eF.mpr (aY Array.toList (jX.inj q).1));exact⟨EqAt.NG rc m,rc,λprog w E Q h=>ne_bytes (by simp only[bne,e];exact h),m⟩
 |none=>
  obtain rfl:u1=_:=r;obtain rfl:u2=_:=c;exact⟨EqAt.same _,RcAt.none_none,RcNeAt.none_none,λι=>rfl⟩
structure ac2(A:aW)(s:ah)(us ws:ab ag)(t:aE)(e:ae->aE):Prop where
 at_:∀j(h1:j<us.length)(h2:j<ws.length),EqAt A s us[j] ws[j] (e j)
 all:t=((vr (min us.length ws.length)).all e&&us.length==ws.length)
 same:us=ws->t=aq
theorem Kw(h:(match x with|some x=>(match y with|some y=>aa (and x y)|none=>aw)|none=>aw)=aa t):∃a b,x=aa a/\y=aa b/\and a b=t:=by
 induction x with
 |none=>exact b6 h|some a=>
  induction y with
  |none=>exact b6 h|some b=>exact⟨a,b,rfl,rfl,af h⟩
theorem all_succ(e:ae->aE)(n:ae):(vr (n+1)).all e=(e 0&&(vr n).all λj=>e (j+1)):=by
 simp only[ab.range_succ_eq_map,ab.all_cons,ab.all_map];rfl
theorem NH(hf:Cw X n f)(l:V):∀(k:V)(t:aE),Xz f l k=aa t->∀(A:aW)(s:ah)ρ us ws,A.units+n<cLine->Rep X ρ s.heap l .none us->Rep X ρ s.heap k .none ws->
  ∃e:ae->aE,ac2 A s us ws t e:=by
 induction l with
 |nil=>
  intro k t he A s ρ us ws d i c;obtain rfl:us=[]:=i
  induction k using V.casesOn with
  |nil=>
   obtain rfl:=af he;obtain rfl:ws=[]:=c;exact⟨λι=>aq,⟨λj m=>er m (e_ j),rfl,λι=>rfl⟩⟩
  |cons b q=>
   obtain rfl:=af he;obtain⟨u,q,rfl,_⟩:=c;exact⟨λι=>aq,⟨λj m=>er m (e_ j),rfl,λq=>noC q⟩⟩
  |_=>exact b6 he
 |cons a r h C=>
  intro k t he A s ρ us ws d i c;obtain⟨u,o,rfl,D,F⟩:=i
  induction k using V.casesOn with
  |nil=>
   obtain rfl:=af he;obtain rfl:ws=[]:=c;exact⟨λι=>aq,⟨λj ι G=>er G (e_ j),rfl,λq=>noC q.symm⟩⟩
  |cons b q=>
   refine ck λH=>?_;obtain⟨x,y,I,J,rfl⟩:=Kw he;obtain⟨u2,p,rfl,L,M⟩:=c;obtain⟨e,z⟩:=C q y J A s ρ o p d F M;have g:=hf a b x I A s ρ u u2 d D L;refine H ?_;refine⟨λj=>@eb (λι=>aE) x (λj ι=>e j) j,⟨λj=>?_,?_,λq=>?_⟩⟩
   ·induction j with
    |zero=>exactλι ι=>g.eq|succ j=>exactλg1 g2=>z.at_ j (eV g1) (eV g2)
   ·simp only[z.all,<-aE.and_assoc,cY,cY,ae.add_min_add_right,all_succ]
    exact aY (and _) (iJ.mpr (by rw[eF,eF];exact(ae.add_right_cancel_iff (n:=1)).symm))
   ·simp only[z.same (c7 q).2,g.same (c7 q).1];rfl
  |_=>exact b6 he
 |_=>exactλk t he=>b6 he
theorem NI(hf:Cw X n f)(he:Xz f l k=aa t)(u:A.units+(n+1)<cLine)(r:iU X ρ s.heap (.tup l) u1)(i:iU X ρ s.heap (.tup k) u2):EqG A s u1 u2 t:=by
 obtain⟨x,us,rfl,a,_,_,j⟩:=r;obtain⟨y,ws,rfl,b,_,_,p⟩:=i;obtain⟨e,z⟩:=NH hf l k t he A.in1 s ρ us ws (cD (iz (Rp A.units 1 n)) u) j p;have rc:RcAt A s (.ref x) (.ref y) t:=z.all▸RcAt.tuples a b (cD (bp ..) u) z.at_;have g:cX x=.ref y->t=aq:=λq=>by
  refine ck λC=>?_;obtain rfl:=MN q;obtain⟨o,D,_,m,F⟩:=a;obtain⟨o',c,_,G,d⟩:=b;obtain rfl:=af (D.symm.trans c);refine C ?_;exact z.same (aY Array.toList (Data.seq.inj (F.symm.trans d)).1)
 refine⟨?_,rc,z.all▸RcNeAt.tuples a b (cD (bp ..) u) z.at_,g⟩
 by_cases e:x=y
 ·obtain rfl:=e
  exact g rfl▸EqAt.same _
 ·exact EqAt.of_refs e rc
theorem Sz(h:eqN (n+1) a b=aa t):(∃l k,a=.tup l/\b=.tup k/\Xz (eqN n) l k=aa t)\/eq0 a b=aa t:=by
 induction a using V.casesOn with
 |tup l=>
  induction b using V.casesOn with
  |tup k=>exact .inl ⟨l,k,rfl,rfl,h⟩|_=>exact .inr h
 |_=>exact .inr h
theorem ur(X:Ctx)(n:ae):Cw X n (eqN n):=by
 induction n with
 |zero=>exact Ee X 0|succ n i=>
  intro a b t he A s ρ u1 u2 u r c;rcases Sz he with⟨l,k,rfl,rfl,e⟩|e
  ·exact NI i e u r c
  ·exact Ee X (n+1) _ _ t e A s ρ u1 u2 u r c
abbrev MK:=Str ⊕ Int
noncomputable def fG:MK->ag->aE
 |.inl x,v=>DE x v|.inr i,v=>ag.isInt i v
noncomputable def mixHash(w:bU):MK->Int
 |.inl x=>hashStr w x|.inr i=>hashInt i
noncomputable def fH(w:bU):KeyKind PW w MK where
 is:=fG
 hash:=mixHash w
 inj:=λv a b d hb=>by
  rcases a with a|a<;>rcases b with b|b
  ·exact aY _ (ag.isStrOf_inj v _ _ d hb)
  ·obtain⟨t,rfl⟩:=ee d;exact nomatch hb
  ·obtain⟨t,rfl⟩:=eh d;exact nomatch hb
  ·exact aY _ (ag.isInt_inj v _ _ d hb)
 byValue:=λk v h=>by
  rcases k with k|k
  ·obtain⟨t,rfl⟩:=ee h;rfl
  ·obtain⟨t,rfl⟩:=eh h;rfl
 pyHash:=λ{A E s k v Q}c h=>by
  rcases k with k|k
  ·obtain⟨t,rfl⟩:=ee c;exact wpAny_pyHash_str h
  ·obtain⟨t,rfl⟩:=eh c;exact wpAny_pyHash_int h
 eqBool:=λ{A E s a b u v Q}f c h=>by
  rcases a with a|a<;>rcases b with b|b
  ·obtain⟨t,rfl⟩:=ee f
   obtain⟨g,rfl⟩:=ee c;refine wpAny_eqBool_str ?_;simpa using h
  ·obtain⟨t,rfl⟩:=ee f
   obtain⟨g,rfl⟩:=eh c;exact EqAt.str_int _ _ _ _ _ _ _ _ (by simpa using h)
  ·obtain⟨t,rfl⟩:=eh f
   obtain⟨g,rfl⟩:=ee c;exact EqAt.int_str _ _ _ _ _ _ _ _ (by simpa using h)
  ·obtain⟨t,rfl⟩:=eh f
   obtain⟨g,rfl⟩:=eh c;refine wpAny_eqBool_int ?_;have e:decide ((Sum.inr a:MK)=Sum.inr b)=(a==b):=by
    by_cases q:a=b
    ·subst q;simp
    ·rw[bw (by simpa using q),cV.mpr q]
   rw[e]at h;exact h
 «strs»:=λk x t v h=>by
  induction k with
  |inl y=>
   have h:DE y (.str x t)=aq:=h;have j:x=y:=by simpa[DE] using h
   subst j
   cases v<;>rfl
  |inr i=>simp[fG,ag.isInt]at h
noncomputable def qm:V->ao MK
 |.str s=>aa (.inl ⟨s.toArray⟩)|.int i=>aa (.inr i)|_=>aw
inductive XU:V->MK->Prop where
 |str (y):XU (.str y) (.inl ⟨y.toArray⟩)
 |int (y):XU (.int y) (.inr y)
theorem rp(h:qm x=aa m):XU x m:=by
 induction x using V.casesOn with
 |str s=>exact af h▸.str s|int i=>exact af h▸.int i|_=>exact b6 h
theorem yy(s:Str)(t:Tok):fG (.inl s) (.str s t)=aq:=cc rfl
theorem isInt_self(i:Int)(t:Tok):fG (.inr i) (.int i t)=aq:=cc rfl
structure ac3(w:bU)(k:V)(e:aZ)(m:MK):Prop where
 key:qm k=aa m
 is:fG m e.key=aq
 hash:e.hash=mixHash w m
theorem yz(r:D5 w.params k e):∃m,ac3 w k e m:=by
 induction k using V.casesOn with
 |str s=>exact⟨_,rfl,r.2.elim λt q=>q▸yy _ t,r.1⟩|int i=>exact⟨_,rfl,r.2.elim λt q=>q▸isInt_self _ t,r.1⟩|_=>exact r.elim
theorem key_is(a:qm k=aa m)(r:iU X ρ h k u):fG m u=aq:=by
 induction rp a with
 |str s=>exact r.elim λt q=>q▸yy _ t|int i=>exact r.elim λt q=>q▸isInt_self _ t
theorem mM(h:keyOk k=aq):∃m,qm k=aa m:=by
 induction k using V.casesOn with
 |str s=>exact⟨_,rfl⟩|int i=>exact⟨_,rfl⟩|_=>exact fT h
theorem Cx{p q:Prop}[jP p][jP q](h:p↔q):decide p=decide q:=iJ.mpr (by rw[iS,iS];exact h)
theorem Kx(c:qm a=aa m)(hb:qm b=aa k)(n:keyOk b=aq):isKey a b=decide (m=k):=by
 induction rp c with
 |str x=>
  induction rp hb with
  |str y=>exact(sEq_iff x y).trans (Cx ⟨λe=>e▸rfl,λe=>aY (λs:Str=>s.cps.toList) (Sum.inl.inj e)⟩)|int j=>exact(bw Sum.inl_ne_inr).symm
 |int i=>
  induction rp hb with
  |str y=>
   rw[bw Sum.inr_ne_inl];clear c;rcases i<;>rfl
  |int j=>
   induction j with
   |negSucc d=>exact fT n|ofNat j=>
    induction i with
    |negSucc i=>exact(bw λq=>Int.noConfusion (W9 q)).symm|ofNat i=>exact(TR.js i j).trans (Cx ⟨λe=>e▸rfl,λe=>MM (W9 e)⟩)
abbrev Ab(X:Ctx)(w:bU)(ρ:fO)(h:bJ)(l:V)(es:ab aZ):Prop:=eJ (Rep X ρ h) w.params l es
theorem eJ.len(d:Ab X w ρ h l es):es.length=il l:=by
 induction d with
 |nil=>rfl|cons a b c i=>exact aY ar i
theorem eJ.nil_inv(d:Ab X w ρ h .nil es):es=[]:=ab.eq_nil_of_length_eq_zero d.len
theorem eJ.keys(d:Ab X w ρ h l es):∀e∈es,∃k,fG k e.key=aq/\e.hash=mixHash w k:=by
 induction d with
 |nil=>exactλι he=>sr he|cons a b c i=>
  intro e he;rcases aG.mp he with rfl|he
  ·exact(yz a).imp λm z=>⟨z.is,z.hash⟩
  ·exact i e he
theorem XW(w:bU){m k:MK}{v:ag}(a:fG m v=aq):fG k v=decide (m=k):=((fH w).is_eq_decide (k:=m) (v:=v) a k).trans (Cx ⟨Eq.symm,Eq.symm⟩)
inductive Jf(R:V->ag->ab ag->Prop)(es:ab aZ)(p:aZ->aE):ao V->Prop where
 |some {v:V}{i:ae}{e:aZ} (at_:es.findIdx? p=aa i) (get:es[i]? =aa e) (rep:R v e.val []):Jf R es p (aa v)
 |none (off:es.findIdx? p=aw):Jf R es p aw
theorem GQ{p:aZ->aE}(h:p e=aq):(e::es).findIdx? p=aa 0:=by rw[MP,h];rfl
theorem uv{p:aZ->aE}(h:p e=ai):(e::es).findIdx? p=(es.findIdx? p).map (· +1):=by rw[MP,h];rfl
theorem eJ.same(a:D5 w.params y e)(c:qm x=aa k)(o:keyOk x=aq):∃b,isKey y x=b/\fG k e.key=b:=(yz a).elim λι z=>⟨_,Kx z.key c o,XW w z.is⟩
theorem eJ.find(d:Ab X w ρ h l es)(j:qm x=aa k)(m:keyOk x=aq):Jf (Rep X ρ h) es (λe=>fG k e.key) (getD l x):=by
 induction d with
 |nil=>exact .none rfl|@cons y v r e q a b s i=>
  refine ck λn=>?_;obtain⟨t,p,f⟩:=eJ.same a j m;refine n ?_;show Jf _ _ _ (cS (isKey y x) (aa v) (getD r x));refine p▸?_
  induction t with
  |true=>exact .some (GQ f) rfl b|false=>
   generalize getD r x=o at i⊢
   induction i with
   |some c d g=>exact .some ((uv f).trans (aY (nq _) c)) d g|none c=>exact .none ((uv f).trans (aY (nq _) c))
theorem eJ.find_some(d:Ab X w ρ h l es)(f:qm x=aa k)(o:keyOk x=aq)(g:getD l x=aa v):∃i e,es.findIdx? (λe=>fG k e.key)=aa i/\es[i]? =aa e/\iU X ρ h v e.val:=by
 have:=d.find f o;simp only[g]at this;exact match this with|.some a b c=>⟨_,_,a,b,c⟩
theorem A6(d:Ab X w ρ h r es)(c:qm k=aa m)(f:keyOk k=aq)(b:qi r k=ai):es.findIdx? (λe=>fG m e.key)=aw:=by
 have hf:=d.find c f;unfold qi at b;generalize getD r k=o at b hf
 induction hf with
 |some=>exact tF b|none a=>exact a
inductive SA(R:V->ag->ab ag->Prop)(w:bU)(es:ab aZ)(k:MK)(key u:ag)(l' :V):ao V->Prop where
 |old {v:V}{i:ae} (at_:es.findIdx? (λe=>fG k e.key)=aa i) (rep:eJ R w.params l' (es.modify i λe=>{e with val:=u})):SA R w es k key u l' (aa v)
 |new (off:es.findIdx? (λe=>fG k e.key)=aw) (rep:eJ R w.params l' (es++[⟨mixHash w k,key,u⟩])):SA R w es k key u l' aw
theorem eJ.set(d:Ab X w ρ h l es)(j:qm x=aa k)(D:keyOk x=aq)(m:iU X ρ h v u)(n:iU X ρ h x key):SA (Rep X ρ h) w es k key u (DX l x v) (getD l x):=by
 induction d with
 |nil=>exact .new rfl (.cons (by induction rp j with
  |str s=>exact⟨rfl,n⟩|int i=>exact⟨rfl,n⟩) m .nil)
 |@cons y p r e q a b c C=>
  obtain⟨t,F,f⟩:=eJ.same a j D;show SA _ w _ k key u (cS (isKey y x) (.cons (.cons y v) r) (.cons (.cons y p) (DX r x v))) (cS (isKey y x) (aa p) (getD r x));refine F▸?_
  induction t with
  |true=>exact .old (GQ f) (.cons (by induction y using V.casesOn with
   |str s=>exact a|int i=>exact a|_=>exact a.elim) m c)
  |false=>
   generalize getD r x=o at C⊢
   induction C with
   |old g z=>exact .old ((uv f).trans (aY (nq _) g)) (.cons a b z)|new g z=>exact .new ((uv f).trans (aY (nq _) g)) (.cons a b z)
theorem eJ.SD(d:Ab X w ρ h l es)(b:qm x=aa k)(c:keyOk x=aq)(r:iU X ρ h v u)(e:iU X ρ h x key)(a:qi l x=ai):Ab X w ρ h (DX l x v) (es++[⟨mixHash w k,key,u⟩]):=by
 have st:=d.set b c r e;unfold qi at a;generalize getD l x=o at st a
 induction st with
 |old=>exact tF a|new f z=>exact z
theorem eJ.del(d:Ab X w ρ h l es)(g:qm x=aa k)(o:keyOk x=aq):∀{i:ae},es.findIdx? (λe=>fG k e.key)=aa i->Ab X w ρ h (delD l x) (es.eraseIdx i):=by
 induction d with
 |nil=>exactλm=>b6 m|@cons y n r e q a b c p=>
  intro i hf;obtain⟨t,u,f⟩:=eJ.same a g o;show Ab X w ρ h (cS (isKey y x) r (.cons (.cons y n) (delD r x))) _;refine u▸?_
  induction t with
  |true=>
   obtain rfl:=af ((GQ f).symm.trans hf);exact c
  |false=>
   obtain⟨j,z,rfl⟩:=jZ.mp ((uv f).symm.trans hf);exact .cons a b (p z)
theorem mapOf(o:h.get? p=aa {cls:=.type "dict",data:=.dict es.toArray ep})(r:Ab X w ρ h l es):
  h.MapOf (fH w) p (λk=>wU fG es.toArray k):=
 ⟨_,es.toArray,ep,o,⟨rfl,rfl,rfl⟩,rfl,λe he=>r.keys e (RY.mp he),λι=>rfl⟩
theorem yA{es:ab aZ}{l x:V}{k:MK}(r:Ab X w ρ h l es)(d:qm x=aa k)(f:keyOk x=aq):
  (∃v u,getD l x=aa v/\wU fG es.toArray k=aa u/\iU X ρ h v u)\/(getD l x=aw/\wU fG es.toArray k=aw):=by
 have:=r.find d f;rw[findBy_of_findIdx?,lT];generalize getD l x=o at this⊢
 induction this with
 |@some v i e a b c=>exact .inl ⟨v,e.val,rfl,by rw[a];exact(aY (nq _) IB).trans (aY (nq _) b),c⟩|none a=>exact .inr ⟨rfl,by rw[a]⟩
theorem get_some(r:Ab X w ρ h l es)(d:qm x=aa k)(o:keyOk x=aq)(g:getD l x=aa v):∃u,wU fG es.toArray k=aa u/\iU X ρ h v u:=by
 rcases yA r d o with⟨e,u,a,b,c⟩|⟨a,_⟩
 ·exact⟨u,b,af (a.symm.trans g)▸c⟩
 ·exact b6 (a.symm.trans g)
end
section
open PySem.SeqAt
variable{G:Gm}{n:ae}{k:Kf}{σ:St}{a b v:V}{u u1 u2:ag}{t:Sem ag}
noncomputable abbrev sz(k:Kf):aB:=k.h.objs.size
noncomputable abbrev GR(us:ab ag):Obj:={cls:=.type "list",data:=.seq us.toArray}
theorem pn{h:bJ}{o:Obj}(hf:o.isFreed=ai)(e:o.cls≠.type "tuple")(us): ¬(h.push o).IsTuple h.objs.size us:=λ⟨x,d,c,y⟩=>by
 rw[bA _ hf]at d;obtain rfl:=af d;exact e c
theorem dt{h:bJ}:∀b x,h.get? b=aa x->(h.push o).get? b=aa x:=λb x e=>bf _ e
theorem cO{h:bJ}{a:aB}(l:h.objs.size<=a):h.get? a=aw:=s7 l
theorem aN.aaL{us:ab ag}(r:RL G k l us)(h:us.length<=4096->∀A Q E,el A n->(∀tk,Q (.ref (sz k)) {sh G.b k with heap:=k.h.push (GR us),toks:=tk})->SR G k σ->bO (Md G.w) A t Q E (sh G.b k)):aN G n k σ (qj l) (RV G) t:=
 aN.eB λf x τ e S A Q E R q=>by
  have d:us.length<=4096:=by rw[hA r];exact ble f
  refine ck λi=>?_;obtain⟨s,rfl,rfl⟩:=ox e;have c:=bA k.h (o:=GR us) rfl;obtain⟨hp,j,m⟩:=h5.alloc S (p:=(sz k,sz k)) (h' :=k.h.push (GR us)) s dt (cO (aF _)) (cO (aF _)) ⟨_,c⟩ ⟨_,c⟩ (pn rfl (by simp)) (pn rfl (by simp))
   λg=>⟨rfl,us,_,d,c,r.lst,r.rep.mono g NT.nil⟩
  refine i ?_;exact aT (h d A Q E R (λtk=>q (.ref (sz k)) ⟨_,_,tk⟩ m j ⟨_,hp,rfl⟩) S)
theorem Jg(rc:gi X ρ h c ws):∀{us:ab ag},gi X ρ h l us->gi X ρ h (tc l c) (us++ws):=by
 induction l with
 |nil=>intro us r;have:us=[]:=r.rep;subst this;exact rc|cons a r b i=>
  rintro us ⟨z,u,s,rfl,d,e⟩;obtain⟨f,r'⟩:=i ⟨z,e⟩;exact⟨f,u,s++ws,rfl,d,r'⟩
 |_=>intro us r;exact nomatch r.lst
theorem du{h:bJ}{vs:ab ag}(g:h.get? p=aa {cls:=.type "list",data:=.seq vs.toArray c}):h.IsList p vs.toArray:=⟨_,g,rfl,_,rfl⟩
theorem Ef{A:aW}{E}{s:ah}{w:bU}{l b:aB}{vs ws:ab ag}{n c:ae}{Q:ag->ah->Prop}(d:s.heap.get? l=aa {cls:=.type "list",data:=.seq vs.toArray n})(o:s.heap.get? b=aa {cls:=.type "list",data:=.seq ws.toArray c})(hsz:vs.length+ws.length<=ec)(h:Q (.ref s.heap.objs.size) {s with heap:=s.heap.push (GR (vs++ws))}):bO (Md w) A (gv .Add (.ref l) (.ref b)) Q E s:=by
 refine concat_meets ⟨_,d,rfl⟩ ⟨_,o,rfl⟩ noFill_list_add seq_list_add PySem.F.slot_list_add PySem.F.entry_list_add (PySem.F.args_list_add_2 _ _) (list_addW l b vs.toArray ws.toArray n c aw aw #[] #[] (by simpa using hsz)) ⟨d,o,?_⟩
 rw[show vs.toArray++ws.toArray=(vs++ws).toArray by simp]
 exact h
theorem SE(r:RV G k a u1)(d:RV G k b u2):aN G 2 k σ (aat a b) (RV G) (gv .Add u1 u2):=
 aN.alt (aN.eC (T:=(gv .Add · u2)) r λx ι=>aN.eC d λy ι=>aN.leaf λA Q E ι q=>add_int (q _ _ ⟨_,rfl⟩))
 (aN.alt (aN.fB (T:=(gv .Add · u2)) r λx ι=>aN.fB d λy ι=>aN.eB λf=>aN.leaf λA Q E ι q=>KBy.add_bytes (by
   have:=ble f;rw[<-Ec G.X,mT,bV]at this;simp;lia) λe k=>q _ _ ⟨e,by rw[mT];simp⟩)
 (aN.alt (aN.hH (T:=(gv .Add · u2)) r λx ι=>aN.hH d λy ι=>aN.eB λf=>aN.leaf λA Q E ι q=>add_str (λe tk=>q _ _ ⟨_,by rw[rn,<-ab.append_toArray];rfl⟩) (by
   have:=ble f;rw[fU,rn,bV]at this;rw[bD];simp only[wV,a7];lia))
 (aN.cb (T:=(gv .Add · u2)) r λι l ι ι ι L=>aN.cb d λι c ι ι ι L2=>aN.aaL (Jg L2.rep L.rep) λf A Q E ι q ι=>Ef L.obj L2.obj (by have:=L.len;have:=L2.len;rw[bD];lia) (q k.tk))))
theorem xe(h:Ci x=aq):B_ x<=64:=by
 induction x with
 |ofNat m=>have:cR m<=1000000:=nC.mpr (ble h);exact intBits_le_64 (xO (by decide) (c9 m)) (ael this (by decide))|negSucc=>exact fT h
theorem SF(r:RV G k a u1)(c:RV G k b u2):aN G 2 k σ (mulM a b) (RV G) (gv .Mult u1 u2):=
 aN.alt (aN.eC (T:=(gv .Mult · u2)) r λx ι=>aN.eC c λy ι=>aN.eB λf=>aN.leaf λA Q E ι q=>mul_int (q _ _ ⟨_,rfl⟩) (by
   induction h:Ci y with
   |true=>exact IntMulOk.of_right (xe h)|false=>rw[h]at f;exact IntMulOk.of_left (xe f)))
 (aN.fB (T:=(gv .Mult · u2)) r λx ι=>aN.ei c λy ι=>aN.eB λf=>aN.leaf λA Q E ι q=>by
  obtain⟨f,g⟩:=fS f;have i:=(fS f).2;have d:=ble g;rw[<-Ec G.X]at d;have j:fm G.X x≠[]:=by induction x using a6 with|nil=>exact fT ((fS f).1)|cons=>exactλe=>nomatch e
  refine bytes_mul_any (b:=fm G.X x) (n:=cR y) j (xO (by decide) (c9 y)) (xO (nC.mpr (ble i)) (by decide)) (ae.le_succ_of_le d) λl k=>?_
  rw[show(cR y).toNat=y from rfl,<-Ed]
  exact q _ _ ⟨_,rfl⟩)
theorem SG(x:Int)(y:ae)(h:1<=y):imod x y=x.fmod (.ofNat y):=by
 induction x with
 |ofNat m=>exact Int.ofNat_fmod m y|negSucc m=>
  induction y with
  |zero=>exact er h (by decide)|succ y=>rfl
theorem SH(r:RV G k a u1)(c:RV G k b u2):aN G 2 k σ (aau a b) (RV G) (gv .FloorDiv u1 u2):=
 aN.ei (T:=(gv .FloorDiv · u2)) r λx ι=>aN.ei c λy ι=>aN.eB λf=>aN.leaf λA Q E ι q=>by
  have d:=(fS f).1;have g:=(fS f).2;have h:=ble d;have i:=ble g;exact floordiv_int (by intro e;have e:(y:Int)=0:=e;lia) (q _ _ ⟨_,by rw[show(cR x).fdiv (cR y)=cR (x/ y) from(Int.ofNat_fdiv x y).symm]⟩) (hp:=.inl (PyProof.noPylong_small (by show y<1073741824;lia)))
theorem SI(r:RV G k a u1)(c:RV G k b u2):aN G 2 k σ (aav a b) (RV G) (gv .Mod u1 u2):=
 aN.eC (T:=(gv .Mod · u2)) r λx ι=>aN.ei c λy ι=>aN.eB λf=>aN.leaf λA Q E ι q=>by
  have h:=ble f;exact mod_int' (by intro e;have e:(y:Int)=0:=e;lia) (q _ _ ⟨_,by rw[SG x y h]⟩)
theorem SJ(r:RV G k a u1)(c:RV G k b u2):aN G 2 k σ (aaw a b) (RV G) (gv .Pow u1 u2):=
 aN.ei (T:=(gv .Pow · u2)) r λx ι=>aN.ei c λy ι=>aN.eB λf=>aN.leaf λA Q E ι q=>by
  have hb:B_ (cR x)<=64:=intBits_le_64 (xO (by decide) (c9 x)) (ael (show cR x<=1000000000 from nC.mpr (ble ((fS f).1))) (by decide))
  refine pow_int (c9 y) (xO (Int.mul_le_mul (nC.mpr hb) (nC.mpr (ble ((fS f).2))) (c9 y) (by decide)) (by decide)) (q _ _ ⟨k.tk,?_⟩)
  rw[show(cR x)^(cR y).toNat=cR (x^y) from(Int.natCast_pow x y).symm]
theorem SK(op:Operator)(r:RV G k a u1)(c:RV G k b u2):aN G 2 k σ (Xx op a b) (RV G) (gv op u1 u2):=by
 induction op with
 |Add=>exact SE r c|Sub=>exact aN.eC (T:=(gv .Sub · u2)) r λx ι=>aN.eC c λy ι=>aN.leaf λA Q E ι q=>sub_int (q _ _ ⟨_,rfl⟩)|Mult=>exact SF r c|FloorDiv=>exact SH r c|Mod=>exact SI r c|Pow=>exact SJ r c|_=>exact aN.bW
theorem SM(r:RV G k a u):aN G 2 k σ (Xy a) (RV G) (Q7 .USub u):=aN.eC r λx ι=>aN.leaf λA Q E ι q=>neg_int (q _ _ ⟨_,rfl⟩)
abbrev RT(_:Kf)(t:aE)(u:ag):Prop:=u=.bool t
theorem aN.ask{t:aE}{c:Sem ag}(h:∀A Q E,el A n->(∀tk,Q (.bool t) {sh G.b k with toks:=tk})->bO (Md G.w) A c Q E (sh G.b k)):aN G n k σ (rt t) RT c:=aN.leaf λA Q E R q=>h A Q E R λtk=>q _ tk rfl
def An(X:Ctx):Prop:=∃o,X.h0.get? IC=aa o
theorem pq{G:Gm}{k:Kf}{σ:St}(S:SR G k σ)(M:An G.X){j:ae}{p:aB×aB}(hp:k.ρ[j]? =aa p):(p.1==IC)=ai:=
 cV.mpr λq=>by obtain⟨o,h⟩:=M;exact b6 ((q▸(S.above p (aA hp)).1.1).symm.trans h)
theorem aN.A7(h:SR G k σ->aN G n k σ c rep t):aN G n k σ c rep t:=λa τ e S=>h S a τ e S
theorem x5{h:bJ}{a:aB}{ep:ae}(o:h.get? a=aa {cls:=.type "dict",data:=.dict #[] ep})(prog:bS)(w:bU):h.DictOf (intKind prog w) a []:=
 ⟨_,#[],ep,o,⟨rfl,rfl,rfl⟩,rfl,λι he=>by simp at he,.nil,.nil⟩
inductive NJ:jW->(aE->aE)->Prop
 |eq:NJ .Eq id
 |ne:NJ .NotEq dU
theorem NJ.at{op:jW}{f:aE->aE}(h:NJ op f){t:aE}(c:∀A,el A n->RcAt A (sh G.b k) u1 u2 t)(d:∀A,el A n->RcNeAt A (sh G.b k) u1 u2 (!t)):aN G n k σ (rt (f t)) RT (cq op u1 u2):=by
 induction h with
 |eq=>exact aN.ask λA Q E R q=>c A R _ _ E Q (q k.tk)|ne=>exact aN.ask λA Q E R q=>d A R _ _ E Q (by rw[<-pk];exact q k.tk)
theorem el.le(R:el A 2)(h:cf c 32=aq):A.units+c<cLine:=cD (nk (bx h) _) R.units
theorem pv{l:V}{t:aE}(e:isNil l=aa t):(l=.nil/\t=aq)\/(∃x r,l=.cons x r)/\t=ai:=by
 rcases l<;>cases e
 ·exact .inl ⟨rfl,rfl⟩
 ·exact .inr ⟨⟨_,_,rfl⟩,rfl⟩
theorem NL(M:An G.X){op:jW}{f:aE->aE}(o:NJ op f)(m:RV G k a u1)(q:RV G k b u2):aN G 2 k σ (eqM f a b) RT (cq op u1 u2):=
 aN.alt (aN.cb (T:=(cq op · u2)) m λι l ι vs ι L=>aN.cb q λι l2 ι ws ι L2=>aN.opt λt i=>aN.eB λg=>aN.opt λH d=>by
  subst g;rcases pv i with⟨rfl,_⟩|⟨_,e⟩
  ·have I:ws=[]:=L2.rep.rep
   subst I;rcases pv d with⟨rfl,rfl⟩|⟨⟨x,r,rfl⟩,rfl⟩
   ·have J:vs=[]:=L.rep.rep
    subst J;have e1:k.h.IsList _ #[]:=du L.obj;have e2:k.h.IsList _ #[]:=du L2.obj;exact o.at (λA R=>RcAt.lists (A:=A) (s:=sh G.b k) (e:=λι=>aq) e1 e2 rfl (R.le (c:=0) rfl) λj y=>er y (e_ j))
     λA R=>RcNeAt.lists (A:=A) (s:=sh G.b k) (e:=λι=>aq) e1 e2 rfl (R.le (c:=0) rfl) λj y=>er y (e_ j)
   ·obtain⟨u,us,rfl,_⟩:=L.rep.rep
    exact o.at (λA R=>RcAt.lists_lengths (du L.obj) (du L2.obj) rfl (R.le (c:=0) rfl)) λA R=>RcNeAt.lists_lengths (du L.obj) (du L2.obj) rfl (R.le (c:=0) rfl)
  ·exact tF e)
 (aN.alt (aN.fu (T:=(cq op · u2)) m λι l ι p es D=>aN.fu q λι l2 ι O z D2=>aN.opt λt i=>aN.eB λg=>aN.opt λH d=>aN.eB λN=>aN.A7 λS=>by
  subst g;subst N;rcases pv i with⟨rfl,_⟩|⟨_,e⟩
  ·rcases pv d with⟨rfl,_⟩|⟨_,e⟩
   ·obtain rfl:es=[]:=eJ.nil_inv (w:=G.w) D.rep
    obtain rfl:z=[]:=eJ.nil_inv (w:=G.w) D2.rep;exact o.at (λA R prog C E Q F=>keq_eq (knd:=intKind prog C) (r:=aq) (pq S M D.sC) (pq S M D2.sC) (x5 D.obj _ _) (x5 D2.obj _ _) (R.le (c:=0) rfl) (λι=>.nil) F)
     λA R prog C E Q F=>keq_ne (knd:=intKind prog C) (r:=aq) (pq S M D.sC) (pq S M D2.sC) (x5 D.obj _ _) (x5 D2.obj _ _) (R.le (c:=0) rfl) (λι=>.nil) F
   ·exact tF e
  ·exact tF e)
 (aN.opt λt i=>o.at (λA R=>(ur G.X 3 a b t i A (sh G.b k) k.ρ u1 u2 (R.le rfl) m q).rc) λA R=>(ur G.X 3 a b t i A (sh G.b k) k.ρ u1 u2 (R.le rfl) m q).ne))
theorem rq:∀a b:Int,V6 a b=decide (a<b)
 |.ofNat a,.ofNat b=>by
  show bH a b=decide ((a:Int)<(b:Int));rw[iJ,iS,xP];exact⟨blt,cz⟩
 |.negSucc a,.ofNat b=>(cc (Int.lt_of_lt_of_le (vp a) (c9 b))).symm|.ofNat a,.negSucc b=>(bw λq=>by have:=c9 a;have:=vp b;simp only[Int.ofNat_eq_natCast]at q;exact(Int.negSucc_not_nonneg (b+a).succ).mp q).symm|.negSucc a,.negSucc b=>by
  show bH b a=_;rw[iJ,iS,show tW a= -((a:Int)+1) from rfl,show tW b= -((b:Int)+1) from rfl]
  exact⟨λe=>by have:=blt e;lia,λe=>cz (by lia)⟩
open Builtin in
theorem qO(b c:Array cK)(t u:Tok):Gives («bytes.__lt__» ⟨[.bytes b t,.bytes c u],[]⟩) (.val (.bool (Bytes.holds "__lt__" (Bytes.order b.toList c.toList)))):=by
 refine .of_wp λM A E s Q h=>?_;show bO M A (isInstance (.bytes c u) (.type "bytes")>>=λr=>_) _ E s;exact ak (iC (jR s c u) F.sub_bytes_bytes (aH ⟨_,rfl,h⟩))
theorem Jh(a b:ae):bR a<bR b↔bz a 256<bz b 256:=by
 have e:∀c:ae,(bR c).toNat=bz c 256:=λc=>nG;rw[iK,e,e]
theorem NM{x y:ab ae}{t:aE}(e:bLt x y=aa t)(X:Ctx):kG "__lt__" (gF (fm X x) (fm X y))=t:=by
 induction x using a6 with
 |nil=>exact b6 e|cons a r=>
  induction r using a6 with
  |cons=>exact b6 e|nil=>
   induction y using a6 with
   |nil=>exact b6 e|cons b q=>
    induction q using a6 with
    |cons=>exact b6 e|nil=>
     obtain rfl:=af e;show kG "__lt__" (gF [bR a] [bR b])=_;unfold gF
     by_cases h:bz a 256<bz b 256
     ·rw[bc ((Jh a b).mpr h),ae.blt_eq.mpr h];rfl
     ·rw[aU λq=>h ((Jh a b).mp q),iR.mpr λq=>h (blt q)]
      by_cases h' :bz b 256<bz a 256
      ·rw[bc ((Jh b a).mpr h')];rfl
      ·rw[aU λq=>h' ((Jh b a).mp q)];rfl
theorem n8:Slot "bytes" (cmpInfo .Lt).2.1 "bytes.__lt__":=
 .of (owner:="bytes") (n:="__lt__") (by rw[cH,bQ];kernel_rfl) (by decide+kernel) (by decide+kernel) (by decide+kernel)
  (by first|exact .inl (by decide+kernel)|exact .inr (by decide+kernel)) (by rw[f7];kernel_rfl)
theorem sD(a b:ag):kl "bytes.__lt__" ⟨[a,b],[]⟩:=by
 unfold kl;refine(nr (id:="bytes.__lt__") (n:=['_','_','t','l','_','_']) (o:=['s','e','t','y','b']) (⋯) FB.owner_bytes)▸?_;kernel_rfl
theorem XX(r:RV G k a u1)(c:RV G k b u2):aN G 2 k σ (ltM a b) RT (cq .Lt u1 u2):=
 aN.alt (aN.eC (T:=(cq .Lt · u2)) r λx ι=>aN.eC c λy ι=>aN.ask λA Q E ι q=>lt_int (by rw[<-rq];exact q k.tk))
 (aN.fB (T:=(cq .Lt · u2)) r λx t1=>aN.fB c λy t2=>aN.opt λt h=>aN.ask λA Q E ι q=>
  compareOp_gives (op:=.Lt) (jR _ _ _) (jR _ _ _) n8 (iD (⋯)) (sD _ _) (qO _ _ _ _) (λe=>nomatch e) (by exact((NM h G.X)▸q) k.tk))
theorem tw{f:aE->aE}{op:jW}(h:(op=.Is/\f=id)\/op=.IsNot/\f=dU){t:aE}(q:∀A(R:aE->ah->Prop)E,R t (sh G.b k)->bO (Md G.w) A (isSame u1 u2) R E (sh G.b k)):aN G n k σ (rt (f t)) RT (cq op u1 u2):=by
 rcases h with⟨rfl,rfl⟩|⟨rfl,rfl⟩
 ·refine aN.ask λA Q E ι z=>?_
  exact ak (q A _ E (aH (z k.tk)))
 ·refine aN.ask λA Q E ι z=>?_
  exact ak (q A _ E (aH (by rw[<-pk];exact z k.tk)))
theorem Jb.cls(L:Jb G k σ j o p):∃x,k.h.get? p.1=aa x/\x.cls≠.type "tuple":=by
 have r:=L.obj
 induction o with
 |list=>
  obtain⟨_,_,_,_,c,_⟩:=r;exact⟨_,c,by simp⟩
 |dict=>
  obtain⟨_,_,_,c,_⟩:=r;exact⟨_,c,by simp⟩
 |inst=>
  obtain⟨_,_,c,_⟩:=r;exact⟨_,c,by simp⟩
 |jv=>exact⟨_,r.2.2,by simp⟩|jg=>
  obtain⟨_,_,_,c,_⟩:=r;exact⟨_,c,by simp⟩
theorem NN(h:(op=.Is/\f=id)\/op=.IsNot/\f=dU)(r:RV G k a u1)(c:RV G k b u2):aN G 2 k σ (isM f a b) RT (cq op u1 u2):=
 aN.alt (aN.ja (T:=(cq op · u2)) r (aN.ja c (tw h λA R E q=>wpAny_isSame_plain rfl q)))
 (aN.alt (aN.jh (T:=(cq op · u2)) r λι ι ι ι=>aN.ja c (tw h λA R E q=>wpAny_isSame_plain rfl q))
 (aN.jh (T:=(cq op · u2)) r λi ι p L=>aN.jh c λj ι o L' =>aN.A7 λS=>tw h λA R E q=>by
  by_cases e:i=j
  ·subst e
   obtain rfl:=af (L.sC.symm.trans L'.sC);rw[eL]at q;exact wpAny_isSame_ref_self q
  ·rw[TR.js,bw e]at q
   obtain⟨x,d,g⟩:=L.cls;refine ck λl=>?_;obtain⟨y,m,_⟩:=L'.cls;refine l ?_;exact wpAny_isSame_ref_other (hO S.apart L.sC L'.sC e).1 d m g q))
theorem GS:∀{l:V}{vs:ab ag},Rep X ρ h l .none vs->∀{x:ab ae}{t:aE},Nc l x=aa t->∃ys,StrsAre vs ys/\t=ys.any (· ==(jc x.toArray)):=by
 intro l
 induction l with
 |nil=>intro vs r x t he;have:vs=[]:=r;subst this;obtain rfl:=af he;exact⟨[],.nil,rfl⟩|cons a r b i=>
  rintro vs ⟨u,us,rfl,c,d⟩ x t he
  induction a using V.casesOn with
  |str y=>
   have he:(match Nc r x with|some t=>aa (or (sEq y x) t)|none=>aw)=aa t:=he
   induction e:Nc r x with
   |none=>exact b6 (e▸he)|some g=>
    replace he:=e▸he;injection he with he;subst he
    obtain⟨t1,rfl⟩:=c;obtain⟨ys,f,rfl⟩:=i d e;exact⟨_::ys,.cons _ _ f,by rw[ab.any_cons,NF]⟩
  |_=>exact b6 he
 |_=>intro vs r x t he;exact b6 he
inductive NO:jW->(aE->aE)->Prop
 |in_:NO .In id
 |nin:NO .NotIn dU
theorem NO.at{op:jW}{f:aE->aE}(h:NO op f){t:aE}(c:∀A(Q:ag->ah->Prop)E,el A n->(∀tk,Q (.bool t) {sh G.b k with toks:=tk})->bO (Md G.w) A (cq .In u1 u2) Q E (sh G.b k))(d:∀A(Q:ag->ah->Prop)E,el A n->(∀tk,Q (.bool (!t)) {sh G.b k with toks:=tk})->bO (Md G.w) A (cq .NotIn u1 u2) Q E (sh G.b k)):aN G n k σ (rt (f t)) RT (cq op u1 u2):=by
 induction h with
 |in_=>exact aN.ask c|nin=>exact aN.ask λA Q E R q=>d A Q E R (by rw[<-pk];exact q)
theorem NP(M:An G.X){op:jW}{f:aE->aE}(s:NO op f)(C:RV G k a u1)(F:RV G k b u2):aN G 2 k σ (inM f a b) RT (cq op u1 u2):=
 aN.alt (aN.mn (T:=(cq op u1 ·)) F λl x us D=>aN.hH (T:=(cq op · (.ref x))) C λy t1=>aN.opt λt d=>by
  refine ck λi=>?_;obtain⟨ys,J,rfl⟩:=GS D.rep.rep d;obtain⟨o,H,Z,n,hd⟩:=D.tup;have d:IsTup k.h x us.toArray:=⟨o,H,Z,n,hd⟩;refine i ?_;exact s.at (λA Q E ι q=>in_tuple_strs d (by simpa using J) (q k.tk)) λA Q E ι q=>notin_tuple_strs d (by simpa using J) (q k.tk))
 (aN.alt (aN.cb (T:=(cq op u1 ·)) F λι l ι vs ι L=>aN.opt λt d=>by
  have g:∀A,el A 2->∀y,y∈vs.toArray->EqAt A.in1 (sh G.b k) y u1 ((λι=>t) y):=λA R y N=>by
   induction l using V.casesOn with
   |nil=>have:vs=[]:=L.rep.rep;subst this;exact nomatch N|cons z r=>
    induction r using V.casesOn with
    |nil=>
     refine ck λi=>?_;obtain⟨u,us,rfl,O,I⟩:=L.rep.rep;have:us=[]:=I;subst this;have:y=u:=by simpa using N
     refine i ?_;exact this▸(ur G.X 3 z a t d A.in1 (sh G.b k) k.ρ u u1 (R.le (c:=4) rfl) O C).eq
    |_=>exact b6 d
   |_=>exact b6 d
  have e:vs.toArray.any (λι=>t)=t:=by
   induction l using V.casesOn with
   |nil=>have:vs=[]:=L.rep.rep;subst this;obtain rfl:=af d;simp|cons z r=>
    induction r using V.casesOn with
    |nil=>obtain⟨u,us,rfl,O,I⟩:=L.rep.rep;have:us=[]:=I;subst this;simp|_=>exact b6 d
   |_=>exact b6 d
  exact s.at (λA Q E R q=>in_listAt (λι=>t) (du L.obj) (g A R) (by rw[e];exact q k.tk)) λA Q E R q=>notIn_listAt (λι=>t) (du L.obj) (g A R) (by rw[e];exact q k.tk))
 (aN.fu (T:=(cq op u1 ·)) F λι l ι p es D=>aN.eB λP=>aN.A7 λS=>by
  refine ck λi=>?_;obtain⟨m,j⟩:=mM P;have U:=key_is j C;have fg:=yA (w:=G.w) D.rep j P;have e:((wU fG es.toArray m).isSome:aE)=qi l a:=by
   unfold qi;rcases fg with⟨v,u,W,Y,_⟩|⟨W,Y⟩<;>rw[W,Y]<;>rfl
  refine i ?_;exact s.at (λA Q E R q=>wpAny_in_of (knd:=fH G.w) (k:=m) U (pq S M D.sC) (mapOf D.obj D.rep) (by rw[e];exact q _))
   λA Q E R q=>wpAny_notIn_of (knd:=fH G.w) (k:=m) U (pq S M D.sC) (mapOf D.obj D.rep) (by rw[e];exact q _)))
theorem ry(M:An G.X)(op:jW)(r:RV G k a u1)(c:RV G k b u2):aN G 2 k σ (qI op a b) RT (cq op u1 u2):=by
 induction op with
 |Eq=>exact NL M .eq r c|NotEq=>exact NL M .ne r c|Lt=>exact XX r c|LtE=>exact aN.eC (T:=(cq .LtE · u2)) r λx ι=>aN.eC c λy ι=>aN.ask λA Q E ι q=>P.le_int (by
   rw[pk,rq]at q;rw[show decide (x<=y)=!decide (y<x) by by_cases e:x<=y<;>simp[e]<;>exact VH e];exact q k.tk)
 |Gt=>exact aN.eC (T:=(cq .Gt · u2)) r λx ι=>aN.eC c λy ι=>aN.ask λA Q E ι q=>P.gt_int (by rw[rq]at q;exact q k.tk)|GtE=>exact aN.eC (T:=(cq .GtE · u2)) r λx ι=>aN.eC c λy ι=>aN.ask λA Q E ι q=>P.ge_int (by
   rw[pk,rq]at q;rw[show decide (x>=y)=!decide (x<y) by by_cases e:x>=y<;>simp[e]<;>exact VH e];exact q k.tk)
 |Is=>exact NN (.inl ⟨rfl,rfl⟩) r c|IsNot=>exact NN (.inr ⟨rfl,rfl⟩) r c|In=>exact NP M .in_ r c|NotIn=>exact NP M .nin r c
theorem rB(r:RV G k v u):aN G 2 k σ (pa v) RB (iB u):=
 aN.alt (aN.vC r λt=>aN.leaf λA Q E ι q=>fi (q t k.tk rfl))
 (aN.hH r λl ι=>aN.eB λf=>aN.leaf λA Q E ι q=>by
  have h:=ble f;rw[fU]at h;refine P.truthy_str (by simp only[wV,a7];lia) (q _ _ ?_)
  induction l using a6 with
  |nil=>rfl|cons c l=>exact(bne_iff_ne.mpr (by exact Ne.symm ((λ{x y}=>bi_ine.mp) rfl)):(((jc (xu (c::l))).length:Int) !=0)=aq).symm)
end
section
open PySem.SeqAt
variable{X:Ctx}{w:bU}{A:aW}{s:ah}{h h' :bJ}{E:ag->ah->Prop}
theorem GU:mroOf (.type "bytearray")=pure [.type "bytearray",.type "object"]:=by rw[mroOf_type];kernel_rfl
theorem Ao:dQ (.type "bytearray") "__new__"=pure (aa (.builtin "bytearray.__new__")):=by rw[cH,bQ];kernel_rfl
theorem SN:Bind.madeBy (.type "bytearray")=pure (aa "bytearray.__new__"):=madeBy_type GU Ao (by decide+kernel)
theorem j6:Slot "bytearray" "__init__" "bytearray.__init__":=
 .of (owner:="bytearray") (n:="__init__") (by rw[cH,bQ];kernel_rfl) (by decide+kernel) (by decide+kernel) (by decide+kernel)
  (by first|exact .inl (by decide+kernel)|exact .inr (by decide+kernel)) (by rw[f7];kernel_rfl)
theorem rC:TypeCalled "bytearray" "bytearray.__new__" "bytearray.__init__":=
 ⟨by decide+kernel,by decide+kernel,⟨_,_,GU⟩,SN,by decide+kernel,by rw[f7];kernel_rfl,j6⟩
theorem Eg(a:ag):checkTypeCall "bytearray" ⟨[a],[]⟩=pure ():=⋯
theorem GV(a:ag):checkBuiltinCall "bytearray.__new__" ⟨[.type "bytearray",a],[]⟩=pure ():=⋯
theorem Cy:nE yf "bytearray.__new__"=aa Builtin.«list.__new__»:=entryFor_alias (id' :="list.__new__") (⋯) (by first|rfl|decide+kernel) (by decide+kernel) (⋯)
theorem Ap:nE yf "bytearray.__init__"=aa Builtin.«bytearray.__init__»:=iD (⋯)
theorem uw:Manifest.owners.lookup (cZ.ofList ['y','a','r','r','a','e','t','y','b'].reverse)=aa Manifest.sig_bytearray:=⋯
theorem Cz(a b:ag):kl "bytearray.__init__" ⟨[a,b],[]⟩:=by
 unfold kl;refine(nr (id:="bytearray.__init__") (n:=['_','_','t','i','n','i','_','_']) (o:=['y','a','r','r','a','e','t','y','b']) (⋯) uw)▸?_;kernel_rfl
theorem lY:Slot "bytearray" "__getitem__" "bytearray.__getitem__":=
 .of (owner:="bytearray") (n:="__getitem__") (by rw[cH,bQ];kernel_rfl) (by decide+kernel) (by decide+kernel) (by decide+kernel)
  (by first|exact .inl (by decide+kernel)|exact .inr (by decide+kernel)) (by rw[f7];kernel_rfl)
theorem vL:nE yf "bytearray.__getitem__"=aa Builtin.«bytearray.__getitem__»:=iD (⋯)
theorem xC(a b:ag):kl "bytearray.__getitem__" ⟨[a,b],[]⟩:=by
 unfold kl;refine(nr (id:="bytearray.__getitem__") (n:=['_','_','m','e','t','i','t','e','g','_','_']) (o:=['y','a','r','r','a','e','t','y','b']) (⋯) uw)▸?_;kernel_rfl
theorem jt:Slot "bytearray" "__setitem__" "bytearray.__setitem__":=
 .of (owner:="bytearray") (n:="__setitem__") (by rw[cH,bQ];kernel_rfl) (by decide+kernel) (by decide+kernel) (by decide+kernel)
  (by first|exact .inl (by decide+kernel)|exact .inr (by decide+kernel)) (by rw[f7];kernel_rfl)
theorem vM:nE yf "bytearray.__setitem__"=aa Builtin.«bytearray.__setitem__»:=iD (⋯)
theorem xD(a b c:ag):kl "bytearray.__setitem__" ⟨[a,b,c],[]⟩:=by
 unfold kl;refine(nr (id:="bytearray.__setitem__") (n:=['_','_','m','e','t','i','t','e','s','_','_']) (o:=['y','a','r','r','a','e','t','y','b']) (⋯) uw)▸?_;kernel_rfl
theorem Eh:Slot "bytearray" "__len__" "bytearray.__len__":=
 .of (owner:="bytearray") (n:="__len__") (by rw[cH,bQ];kernel_rfl) (by decide+kernel) (by decide+kernel) (by decide+kernel)
  (by first|exact .inl (by decide+kernel)|exact .inr (by decide+kernel)) (by rw[f7];kernel_rfl)
theorem CA:nE yf "bytearray.__len__"=aa Builtin.«bytearray.__len__»:=iD (⋯)
theorem Ei(a:ag):kl "bytearray.__len__" ⟨[a],[]⟩:=by
 unfold kl;refine(nr (id:="bytearray.__len__") (n:=['_','_','n','e','l','_','_']) (o:=['y','a','r','r','a','e','t','y','b']) (⋯) uw)▸?_;kernel_rfl
theorem CB:MQ (.type "bytearray") (.type "bytearray")=pure aq:=by rw[f7];kernel_rfl
theorem SO(v:ag):Builtin.Bytes.bindOptional "bytearray.__init__" "bytearray" ["source","encoding","errors"] [v] []=pure [aa v,aw,aw]:=⋯
theorem GW:dQ (.type "bytearray") "__release_buffer__"=pure (aa (.builtin "bytearray.__release_buffer__")):=by rw[cH,bQ];kernel_rfl
theorem vN:dQ (.type "bytearray") "__buffer__"=pure (aa (.builtin "bytearray.__buffer__")):=by rw[cH,bQ];kernel_rfl
theorem xf:dQ (.type "bytes") "__index__"=pure aw:=by rw[cH,bQ];kernel_rfl
theorem Ky:dQ (.type "bytes") "__int__"=pure aw:=by rw[cH,bQ];kernel_rfl
theorem Ej:dQ (.type "bytes") "__float__"=pure aw:=by rw[cH,bQ];kernel_rfl
theorem yB:MQ (.type "bytes") (.type "complex")=pure ai:=by rw[f7];kernel_rfl
theorem Kz:MQ (.type "bytes") (.type "bytearray")=pure ai:=by rw[f7];kernel_rfl
theorem NQ:("bytearray.__new__".splitOn ".__new__").headD ""="bytearray":=by rw[split_bytearray];rfl
noncomputable abbrev gX(b:Array cK):Obj:={cls:=.type "bytearray",data:=.bytearray b 0}
theorem Ek{Q₁:ag->ah->Prop}(h:Q₁ (.ref s.heap.objs.size) {s with heap:=s.heap.push (gX #[])}):
  codeAny (bK prog w) A (.call (.builtin "bytearray.__new__") ⟨[.type "bytearray",a],[]⟩) (wants Q₁ E) s:=by
 refine codeAny_of_tree ?_;show bO _ A.in1 (do checkBuiltinCall "bytearray.__new__" ⟨[.type "bytearray",a],[]⟩;again (.builtin "bytearray.__new__" ⟨[.type "bytearray",a],[]⟩)) _ _ s
 refine ak (d0 (GV a) (aH ⟨rf rC.plain _,codeAny_builtin_stack Cy rfl λp st=>?_⟩));have u:=CB;obtain⟨hp,g,d,tk,os⟩:=s;dsimp only;rw[NQ]
 wp_walk
 exact h
theorem vO{id n:cZ}{args:Args}(ok:RM (.builtin id args)=aq)(q:pg.contains n=aq): ¬id=n:=λe=>by
 subst e;have ok:(!pg.contains id)=aq:=ok
 replace ok:=q▸ok
 exact fT ok
theorem Ji{f:F7×Pos->aE}(hf:∀c,RM c=aq->∀p,f (c,p)=ai):∀{l:ab (F7×Pos)},(∀x∈l,RM x.1=aq)->l.any f=ai
 |[],b=>rfl|(c,p)::l,h=>by
  show(f (c,p) ||l.any f)=ai;rw[hf c (h _ (.head _)) p];exact Ji hf λx a=>h x (.tail _ a)
def n9(e:ag):Prop:=∀{A:aW}{s:ah}{E:ag->ah->Prop}{M:dZ}{Q:aE->ah->Prop}(h:Q ai s),bk M A (xQ e) Q E s
def sF:=λx:_=>n9 x
def Aq:=qy bB sF
namespace sH
def e:=Aq
theorem ok:n9 e:=by
 intro A s E M Q h;exactλΓ p b c=>by
  have d:∀x∈(Γ.code,p)::Γ.below,RM x.1=aq:=by
   intro x a
   cases a with
   |head=>exact c.1|tail f a=>exact c.2 _ a
  unfold xQ stack;rw[Ir];rw[Sem.wp_stack];rw[Sem.wp_pure,Sem.wp_pure'];refine Eq.mpr (aY (Q · s) (Ji (λc ok p=>?_) d)) h
  induction c with
  |builtin id args=>
   delta PySem.Builtin.Bytes.exported.match_1 PySem.Builtin.Bytes.exported._sparseCasesOn_1
   refine(Q9 (vO (n:="bytearray.__contains__") ok (by decide+kernel))).trans ?_
   refine(Q9 (vO (n:="bytearray.__mod__") ok (by decide+kernel))).trans ?_
   refine(Q9 (vO (n:="bytearray.__rmod__") ok (by decide+kernel))).trans ?_
   refine(Q9 (vO (n:="_struct.pack_into.held") ok (by decide+kernel))).trans ?_
   refine(Q9 (vO (n:="bytearray.find.held") ok (by decide+kernel))).trans ?_
   obtain⟨pos,k⟩:=args
   induction pos with
   |nil=>rfl|cons v l=>
    refine aE.and_eq_false_iff.mpr (.inr (aE.not_eq_true _▸λq=>vO ok ?_ rfl));exact ID.mpr (b0 _ (ID.mp q))
  |_=>rfl
end sH
theorem CC:n9 self:=@d5 _ _ sF @sH.ok self
theorem sI{Q:aE->ah->Prop}(hT:s.TypeIs (.ref a) "bytearray")(h:Q ai s):bO M A (Builtin.Bytes.ownRelease (.ref a)) Q E s:=by
 refine ak (ak (cI hT GW ?_));refine MR ?_;rw[aU (by decide+kernel)]
 exact((by decide+kernel:"bytearray.__release_buffer__".dropRight ("__release_buffer__".length+1)="bytearray"))▸iC hT CB (aH h)
theorem mU{Q:Array cK->ah->Prop}(o:s.heap.get? a=aa (gX b))(h:Q b s):bO M A (Builtin.Bytes.payload (.ref a)) Q E s:=by
 exact ak (ak (m9 o (aH (aH h))))
theorem yC{f:Array cK->Array cK}{Q:jb->ah->Prop}(o:s.heap.get? a=aa (gX b))(hz:(f b).size<=ec)(h:∀h',h'.get? a=aa (gX (f b))->dy a s.heap h'->Q () {s with heap:=h'}):bO M A (Builtin.Bytes.write (.ref a) f) Q E s:=by
 show bO M A (updateBytearray a f) Q E s;refine ak (m9 o ?_);have e:(s.heap.update a (Obj.mapBytearray f)).get? a=aa (gX (f b)):=dw _ o rfl;refine ak (wpAny_update o ?_);refine sk e ?_ (h _ e (eM ..));show(if (f b).size>ec then aa "bytearray:memory" else aw)=aw
 rw[aU (ae.not_lt.mpr hz)]
theorem SP{id:cZ}{b:Array cK}{t:Tok}:fR id (.bytes b t) aq=pure (aa b):=by
 unfold fR;rw[KBy.special_eq W_,KBy.own_buffer,W'];kernel_rfl
def ux(prog:bS)(a:aB)(b:Array cK)(t:Tok)(R:c8->ah->Prop):Prop:=∀{w:bU}{A:aW}{s:ah}{c:aW}(o:s.heap.get? a=aa (gX #[]))(hz:b.size<=ec)(h:∀h',h'.get? a=aa (gX b)->dy a s.heap h'->R (.ok (.ret .none)) {s with heap:=h'}),bk (bK prog w) A (Builtin.«bytearray.__init__» ⟨[.ref a,.bytes b t],[]⟩)
   (λfin d=>match fin with|.done f=>R (.ok f) d|.again g=>g.quiet=aq/\dg (bK prog w) c g R d) (λe d=>R (.error e) d) s
namespace El
def zz:bS×aB×Array cK×Tok×(c8->ah->Prop):=gB λx=> ¬ux x.1 x.2.1 x.2.2.1 x.2.2.2.1 x.2.2.2.2
def prog:bS:=zz.1
def a:aB:=zz.2.1
def b:Array cK:=zz.2.2.1
def t:Tok:=zz.2.2.2.1
def R:c8->ah->Prop:=zz.2.2.2.2
theorem ok:ux prog a b t R:=by
 intro w A s c o hz h;refine aj (aT (sI (⟨_,o,rfl⟩:s.TypeIs (.ref a) "bytearray") ?_));refine jq bM ?_;refine aj (fE (SO _) ?_);refine aj (fE (a:=()) rfl (aj (fE (a:=()) rfl ?_)));refine aj ?_;refine aj (CC ?_);refine aj ?_;refine aj (aT (m9 o (aO (aO ?_))));refine jq (by decide) ?_
 refine aj (aT (yC o (bj _) λd e1 e=>?_));refine aj (fE (a:=aw) rfl ?_);refine jq (by decide) ?_
 refine aj (fE (a:=()) rfl ?_);refine aj (aT (cI (fy _ b t) xf ?_));refine jq (by decide) ?_
 refine aj (fE SP ?_);refine aj (lD (aj (aT (yC (s:={s with heap:=d}) (f:=λι=>b) e1 hz λg e2 i=>aO ?_))))
 exact h g e2 (e.trans i)
end El
theorem SQ:ux prog a b t R:=@ub _ (λx=>ux x.1 x.2.1 x.2.2.1 x.2.2.2.1 x.2.2.2.2) (prog,a,b,t,R) @El.ok
theorem CD{R:c8->ah->Prop}(o:s.heap.get? a=aa (gX #[]))(hz:b.size<=ec)(h:∀h',h'.get? a=aa (gX b)->dy a s.heap h'->R (.ok (.ret .none)) {s with heap:=h'}):dg (bK prog w) A (.call (.builtin "bytearray.__init__") ⟨[.ref a,.bytes b t],[]⟩) R s:=
 gn (id:="bytearray.__init__") (by show(!pg.contains "bytearray.__init__")=aq;decide+kernel) (rf j6.plain _) Ap
  (aT (j6.check _ _ _ _ _ _ _ _ (show s.TypeIs (.ref a) "bytearray" from⟨_,o,rfl⟩) (Cz _ _) (SQ o hz h)))
def yD(a:bU)(c:aW)(d:ah)(f:ag->ah->Prop)(p:bS)(b:Array cK)(t:Tok)(Q:ag->ah->Prop):Prop:=∀(hz:b.size<=ec)(h:∀h',h'.get? d.heap.objs.size=aa (gX b)->(∀x o,d.heap.get? x=aa o->h'.get? x=aa o)->Q (.ref d.heap.objs.size) {d with heap:=h'}),bk (bK p a) c (call (.type "bytearray") [.bytes b t]) Q f d
def Em:=λx:((_×_)×_×_)×(_×_)×_×_=>yD x.1.1.1 x.1.1.2 x.1.2.1 x.1.2.2 x.2.1.1 x.2.1.2 x.2.2.1 x.2.2.2
def lI:=haveI:=iG;haveI:=eI;haveI:=lx;qy bB Em
namespace En
def a:=lI.1.1.1
def c:=lI.1.1.2
def d:=lI.1.2.1
def f:=lI.1.2.2
def p:=lI.2.1.1
def b:=lI.2.1.2
def t:=lI.2.2.1
def Q:=lI.2.2.2
theorem ok:yD a c d f p b t Q:=by
 intro hz h;refine ib (dN rfl ?_);refine aO (And.intro (nZ _ (by decide+kernel)) (sy (by show(!pg.contains "type.__call__")=aq;decide+kernel) F.entry_type_call ?_))
 unfold Builtin.«type.__call__»;show bk _ _ (if (jS "bytearray"==jS "type")=aq then _ else _) _ _ _
 rw[rC.notType,aU bM];dsimp only;rw[rC.canCreate,aU bM];refine aj (fE (Eg _) ?_);refine aj (fE GU ?_);refine jq (by decide) ?_
 refine aj (fE rC.made ?_);refine aj (aO ?_);refine aj (aP (ib (D7 (codeAny_mono (Ek (Q₁:=λv g=>v=.ref d.heap.objs.size/\g={d with heap:=d.heap.push (gX #[])}) (E:=λι ι=>jD) ⟨rfl,rfl⟩) λr g i=>?_))))
 rcases r with e|(v|_|_|_)<;>first|exact i.elim|skip
 obtain⟨rfl,rfl⟩:=i;have j:(d.heap.push (gX #[])).get? d.heap.objs.size=aa (gX #[]):=bA _ rfl;have hT:({d with heap:=d.heap.push (gX #[])}:ah).TypeIs (.ref d.heap.objs.size) "bytearray":=⟨_,j,rfl⟩
 refine aj (aT (iC hT CB ?_));refine jq (by decide) ?_
 refine aj (aP ?_);refine aj (aT (cI hT j6.lookup ?_));refine aP ?_;rw[j6.bind];refine aj (aO ?_);refine aj (ib (CD (s:={d with heap:=d.heap.push (gX #[])}) j hz λh' e1 k=>?_))
 refine aO (aO ?_);exact h h' e1 λx o e=>(k.2 x (df (eG e))).trans (bf _ e)
end En
theorem Jj:yD w A s E prog b t Q:=@d5 _ _ Em @En.ok (((w,A),s,E),(prog,b),t,Q)
theorem vP{Q:ag×ag×ag->ah->Prop}(b:s.heap.IsSliceOf sl (.int p t1) (.int q t2) .none)(h:Q (.none,pS p,pS q) s->True)(c:Q (pS p,pS q,.none) s):
  bO M A (Builtin.Bytes.sliceParts (.ref sl)) Q E s:=by
 refine ck λk=>?_;obtain⟨o,a,e,d⟩:=b;refine k ?_;refine ak (hE (x:=.none) a d rfl ?_)
 kby_none
 refine MR (KBy.ite_no (show ¬((jN==pS 0)=aq) from bM) ?_)
 refine ak (hE (x:=.int p t1) a d rfl ?_)
 kby_int
 refine ak (hE (x:=.int q t2) a d rfl ?_)
 kby_int
 exact aH c
def pz(c:bU)(d:aW)(f:ah)(r:bS)(a:aB)(l:aB)(b:Array cK)(p:ae)(q:ae):Prop:=∀{E:ag->ah->Prop}{t1 t2:Tok}{Q:ag->ah->Prop}(o:f.heap.get? a=aa (gX b))(g:f.heap.IsSliceOf l (.int (p:Int) t1) (.int (q:Int) t2) .none)(e:p<=q)(i:q<=b.size)(hz:b.size<=ec)(h:Q (.ref f.heap.objs.size) {f with heap:=f.heap.push (gX ((b.toList.drop p).take (q - p)).toArray)}),bO (bK r c) d (Q_ (.ref a) (.ref l)) Q E f
def uy:=λx:((_×_)×_×_)×(_×_)×_×_×_=>pz x.1.1.1 x.1.1.2 x.1.2.1 x.1.2.2 x.2.1.1 x.2.1.2 x.2.2.1 x.2.2.2.1 x.2.2.2.2
def fV:=haveI:=iG;haveI:=eI;haveI:=lx;qy bB uy
namespace uz
def c:=fV.1.1.1
def d:=fV.1.1.2
def f:=fV.1.2.1
def r:=fV.1.2.2
def a:=fV.2.1.1
def l:=fV.2.1.2
def b:=fV.2.2.1
def p:=fV.2.2.2.1
def q:=fV.2.2.2.2
theorem ok:pz c d f r a l b p q:=by
 intro E t1 t2 Q j k g m hz h;have hT:f.TypeIs (.ref a) "bytearray":=⟨_,j,rfl⟩;refine ck λn=>?_;obtain⟨o,i,t,u⟩:=id k;have T:f.TypeIs (.ref l) "slice":=⟨o,i,t⟩;have e:z5 b (nH (aa (p:Int)) (aa (q:Int)) aw b.size).1 (nH (aa (p:Int)) (aa (q:Int)) aw b.size).2.1 (nH (aa (p:Int)) (aa (q:Int)) aw b.size).2.2=((b.toList.drop p).take (q - p)).toArray:=by
  have:=vt b (aa (p:Int)) (aa (q:Int));unfold KBy.picked at this;rw[this];simp only[ao.elim,tX];simp only[f9 m,f9 (bq g m)]
 refine n ?_;unfold Q_
 try with_reducible refine dk ?_
 refine ak (qD hT (by decide) ?_)
 refine ak (lq (name:=aL "__getitem__") hT lY (eS lY hT vL ?_ (xC _ _)));show bO _ _ (Builtin.Bytes.subscript? (.ref l)>>=_) _ _ f;refine ak ?_;refine ak (cI T slice_no_index (aH ?_));refine ak (AV T ?_);refine MR ?_;rw[aU (by decide)]
 refine ak (vP k (λι=>trivial) ?_);refine ak (mU j ?_);refine ak (d0 (sliceIndices_raw (aa (p:Int)) (aa (q:Int)) aw b.size (λe=>b6 e)) ?_);show bO _ _ (Builtin.Bytes.newBytearray (z5 b (nH (aa (p:Int)) (aa (q:Int)) aw b.size).1 (nH (aa (p:Int)) (aa (q:Int)) aw b.size).2.1 (nH (aa (p:Int)) (aa (q:Int)) aw b.size).2.2)>>=_) _ _ f;refine e▸?_;refine ak ?_;refine qA ?_ ?_
 ·exact aH ⟨_,rfl,aH h⟩
 ·show Array.size _<=ec
  simp only[a7,hK,qe,mP];exact bq (ae.min_le_right _ _) (bq (wW _ _) hz)
end uz
theorem Eo:pz w A s prog a sl b p q:=@d5 _ _ uy @uz.ok (((w,A),s,prog),(a,sl),b,p,q)
def my(a:aB)(sl:aB)(c:Array cK)(t:Tok)(p:ae)(q:ae):Prop:=∀{w:bU}{A:aW}{s:ah}{prog:bS}{d:aW}{R:c8->ah->Prop}{b:Array cK}{t1 t2:Tok}(k:s.heap.get? a=aa (gX b))(l:s.heap.IsSliceOf sl (.int (p:Int) t1) (.int (q:Int) t2) .none)(j:p<=q)(m:q<=b.size)(hz:b.size<=ec)(n:c.size=q - p)(h:∀h',h'.get? a=aa (gX ((b.toList.take p)++c.toList++(b.toList.drop q)).toArray)->(∀x o,x≠a->s.heap.get? x=aa o->h'.get? x=aa o)->R (.ok (.ret .none)) {s with heap:=h'}),bk (bK prog w) A (Builtin.«bytearray.__setitem__» ⟨[.ref a,.ref sl,.bytes c t],[]⟩)
   (λfin g=>match fin with|.done f=>R (.ok f) g|.again i=>i.quiet=aq/\dg (bK prog w) d i R g) (λe g=>R (.error e) g) s
namespace uA
def zz:aB×aB×Array cK×Tok×ae×ae:=gB λx=> ¬my x.1 x.2.1 x.2.2.1 x.2.2.2.1 x.2.2.2.2.1 x.2.2.2.2.2
def a:aB:=zz.1
def sl:aB:=zz.2.1
def c:Array cK:=zz.2.2.1
def t:Tok:=zz.2.2.2.1
def p:ae:=zz.2.2.2.2.1
def q:ae:=zz.2.2.2.2.2
theorem ok:my a sl c t p q:=by
 intro w A s prog v R b t1 t2 m y d l hz n h;have ex:(b.extract 0 ((p:ae):Int).toNat++c++b.extract ((q:ae):Int).toNat)=((b.toList.take p)++c.toList++(b.toList.drop q)).toArray:=by
  rw[<-pT];simp[ab.extract,gf]
 have C:nH (aa (p:Int)) (aa (q:Int)) aw b.size=((p:Int),(q:Int),1):=by
  rw[sliceBounds_plain];simp only[ao.elim,tX];rw[f9 l,f9 (bq d l)]
 have hT:s.TypeIs (.ref a) "bytearray":=⟨_,m,rfl⟩;refine ck λD=>?_;obtain⟨o,f,g,F⟩:=id y;have i:s.TypeIs (.ref sl) "slice":=⟨o,f,g⟩;have T:s.TypeIs (.bytes c t) "bytes":=fy _ c t;refine D ?_;unfold Builtin.«bytearray.__setitem__»;dsimp only;refine jq (by decide) ?_
 refine aj (aT ?_);refine ak (cI i slice_no_index (aH ?_));refine aj (aT (AV i ?_));refine jq (by decide) ?_
 refine aj (aT (vP y (λι=>trivial) ?_));refine jq (show ¬Builtin.Bytes.sameRef (cX a) (jX c t)=aq from bM) ?_
 refine aj (aT (iC T Kz ?_));refine Cs (show(!ai)=aq from rfl) ?_
 refine aj (aT ?_);refine ak (ak (cI T xf (aH ?_)));refine ak (ak (cI T Ky (aH ?_)));refine ak (ak (cI T Ej (aH ?_)));refine iC T yB ?_;refine aj (fE (a:=aw) rfl ?_);refine jq (by decide) ?_
 refine aj (lD (aj (Jj (bq (n▸wW q p) (bq l hz):c.size<=ec) λj e1 r=>?_)));have u:j.IsSliceOf sl (.int (p:Int) t1) (.int (q:Int) t2) .none:=⟨o,r _ _ f,g,F⟩;have sz:(b.extract 0 ((p:ae):Int).toNat++c++b.extract ((q:ae):Int).toNat).size<=ec:=by
  simp only[ex,a7,bV,bV,hK,qe,mP,mP];exact bq (iz (P' _ _ _)) (adZ d l n hz)
 have k:=r _ _ m;have G:a≠s.heap.objs.size:=df (eG m);refine aj (aP (aT (vP (s:={s with heap:=j}) u (λι=>trivial) ?_)))
 refine aj (aT (mU (s:={s with heap:=j}) e1 ?_))
 refine aj (aT (mU (s:={s with heap:=j}) k ?_))
 refine aj (fE (sliceIndices_raw (aa (p:Int)) (aa (q:Int)) aw b.size (λe=>b6 e)) ?_);refine C▸?_;dsimp only;refine Cs (by decide) ?_
 refine aj (lD ?_);rw[(Int.max_eq_right (nC.mpr d):max (p:Int) (q:Int)=(q:Int)),aU (by rw[bne_iff_ne];exactλz=>z ((aY ae.cast n).trans (Int.ofNat_sub d)))]
 refine aj (aT (yC (s:={s with heap:=j}) k sz λH e2 I=>aO ?_))
 rw[ex]at e2;exact h H e2 λx o J e=>(I.2 x J).trans (r _ _ e)
end uA
theorem Ep:my a sl c t p q:=@ub _ (λx=>my x.1 x.2.1 x.2.2.1 x.2.2.2.1 x.2.2.2.2.1 x.2.2.2.2.2) (a,sl,c,t,p,q) @uA.ok
theorem Er{prog:bS}{a sl:aB}{b:Array cK}{p q:ae}{t1 t2 t:Tok}{c:Array cK}{Q:jb->ah->Prop}(e:s.heap.get? a=aa (gX b))(f:s.heap.IsSliceOf sl (.int (p:Int) t1) (.int (q:Int) t2) .none)(d:p<=q)(g:q<=b.size)(hz:b.size<=ec)(i:c.size=q - p)(h:∀h',h'.get? a=aa (gX ((b.toList.take p)++c.toList++(b.toList.drop q)).toArray)->(∀x o,x≠a->s.heap.get? x=aa o->h'.get? x=aa o)->Q () {s with heap:=h'}):
  bk (bK prog w) A (qF (.ref a) (.ref sl) (.bytes c t)) Q E s:=by
 have hT:s.TypeIs (.ref a) "bytearray":=⟨_,e,rfl⟩;have code:∀{R:c8->ah->Prop},(∀h',h'.get? a=aa (gX ((b.toList.take p)++c.toList++(b.toList.drop q)).toArray)->(∀x o,x≠a->s.heap.get? x=aa o->h'.get? x=aa o)->R (.ok (.ret .none)) {s with heap:=h'})->
   dg (bK prog w) A (.call (.builtin "bytearray.__setitem__") ⟨[.ref a,.ref sl,.bytes c t],[]⟩) R s:=λj=>
  gn (id:="bytearray.__setitem__") (by show(!pg.contains "bytearray.__setitem__")=aq;decide+kernel) (rf jt.plain _) vM
   (aT (jt.check _ _ _ _ _ _ _ _ hT (xD _ _ _) (Ep e f d g hz i j)))
 refine aP ?_;refine aj (aT (qD hT (by decide) ?_))
 refine aj ?_;refine aj (aT (cI hT jt.lookup ?_));refine aP ?_;rw[jt.bind];refine aj (aO ?_);refine aj (ib (code λh' e1 k=>?_));exact aO (aO (h h' e1 k))
noncomputable def biL:ab ag:=[.builtin "len",.type "bytes",.type "bytearray",.builtin "max",.builtin "abs",.type "list",.type "tuple",.builtin "sorted",.type "int",.builtin "isinstance",.type "enumerate",.type "zip",.type "range",.type "str"]
noncomputable def mr(k:ae):ag:=biL.getD k .none
theorem NR:dQ (.type "bytes") "__bytes__"=pure (aa (.builtin "bytes.__bytes__")):=by rw[cH,bQ];kernel_rfl
theorem Es:dQ (.type "bytearray") "__bytes__"=pure aw:=by rw[cH,bQ];kernel_rfl
theorem Et:dQ (.type "bytearray") "__index__"=pure aw:=by rw[cH,bQ];kernel_rfl
theorem xE(b:Array cK)(t:Tok):Meets (Builtin.«bytes.__new__» ⟨[.type "bytes",.bytes b t],[]⟩) (λι R s=>R (.ok (.ret (.bytes b t))) s):=by
 refine .of_wp λprog w A R s S=>?_;refine ak (d0 (a:=aq) rfl ?_);refine gb (by decide) ?_
 refine ak (d0 F.bm_sub ?_);refine gb (by decide) ?_
 refine ak (d0 (F.bm_bind _) ?_);refine ak (d0 (a:=()) rfl ?_);refine ak (d0 (a:=()) rfl ?_);rw[aU (by decide)]
 refine ak (cI (fy s b t) NR ?_);refine ak (kX ?_);refine ak (d0 (a:=jS "bytes") rfl ?_);refine jG (by decide) ?_
 exact aH ⟨_,rfl,S⟩
def lZ(i:cZ)(a:aB)(Q:ao (Array cK)->ah->Prop):Prop:=∀{A:aW}{s:ah}{E:ag->ah->Prop}{M:dZ}{b:Array cK}(o:s.heap.get? a=aa (gX b))(h:Q (aa b) s),bO M A (fR i (.ref a) aq) Q E s
def pX:=λx:_×_×_=>lZ x.1 x.2.1 x.2.2
def l8:=qy bB pX
namespace pY
def i:=l8.1
def a:=l8.2.1
def Q:=l8.2.2
theorem ok:lZ i a Q:=by
 intro A s E M b o h;have hT:s.TypeIs (.ref a) "bytearray":=⟨_,o,rfl⟩;refine ak (cI hT vN ?_);refine ak ?_;refine ak (cI hT vN ?_);refine MR ?_;rw[aU (by decide+kernel)]
 have e:"bytearray.__buffer__".dropRight ("__buffer__".length+1)="bytearray":=by decide+kernel
 rw[e];refine iC hT CB ?_;refine gb (by decide) ?_
 refine ak (cI hT vN ?_);refine ak (sI hT ?_);refine gb (by decide) ?_
 exact ak (mU o (aH h))
end pY
theorem yE{id:cZ}{a:aB}{Q:ao (Array cK)->ah->Prop}:lZ id a Q:=@d5 _ _ pX @pY.ok (id,a,Q)
theorem CE(a:aB)(b:Array cK):Meets (Builtin.«bytes.__new__» ⟨[.type "bytes",.ref a],[]⟩) (λι R s=>s.heap.get? a=aa (gX b)/\b.size<=ec/\R (.ok (.ret (.bytes b s.toks))) {s with toks:=s.toks+1}):=by
 refine .of_wp λprog w A R s S=>?_;refine ck λk=>?_;obtain⟨o,hz,c⟩:=S;have hT:s.TypeIs (.ref a) "bytearray":=⟨_,o,rfl⟩;refine k ?_;refine ak (d0 (a:=aq) rfl ?_);refine gb (by decide) ?_
 refine ak (d0 F.bm_sub ?_);refine gb (by decide) ?_
 refine ak (d0 (F.bm_bind _) ?_);refine ak (d0 (a:=()) rfl ?_);refine ak (d0 (a:=()) rfl ?_);rw[aU (by decide)]
 refine ak (cI hT Es ?_);refine ak (ak ?_);refine ak (m9 o ?_);refine aH (aH ?_);refine gb (by decide) ?_
 refine ak (cI hT Et ?_);refine jG (by decide) ?_
 first
  |show bO _ _ (fR "bytes.__new__" (.ref a) aq>>=_) _ _ _
  |(refine ak ?_;show bO _ _ (fR "bytes.__new__" (.ref a) aq>>=_) _ _ _)
 refine ak (yE o ?_);refine ak (kX ?_);refine ak (yi ?_ (hb:=hz));refine d0 (a:=Fin.done (tT.ret (jX b s.toks))) rfl ?_;exact⟨_,rfl,c⟩
theorem vQ{Q:ag->ah->Prop}(h:Q (.bytes b t) s):bO (Md w) A (call (.type "bytes") [.bytes b t]) Q E s:=
 callType_new F.bm_called (by decide) (F.bm_typeCall _) (F.bm_newCall _) (λobj=>Ra obj _) F.bm_entry (xE b t) ⟨fy _ _ _,h⟩
theorem Ar{Q:ag->ah->Prop}(o:s.heap.get? a=aa (gX b))(hz:b.size<=ec)(h:Q (.bytes b s.toks) {s with toks:=s.toks+1}):bO (Md w) A (call (.type "bytes") [.ref a]) Q E s:=
 callType_new F.bm_called (by decide) (F.bm_typeCall _) (F.bm_newCall _) (λobj=>Ra obj _) F.bm_entry (CE a b) ⟨o,hz,fy _ _ _,h⟩
theorem CF(a:aB)(b:Array cK):Meets (Builtin.«bytearray.__len__» ⟨[.ref a],[]⟩) (λι R s=>s.heap.get? a=aa (gX b)/\R (.ok (.ret (.int b.size s.toks))) {s with toks:=s.toks+1}):=by
 refine .of_wp λprog w A R s S=>?_;refine ak (d0 (a:=(.ref a,[])) rfl ?_);refine ak (mU S.1 ?_);exact ak (wpAny_mkInt (aH ⟨_,rfl,S.2⟩))
theorem XY{Q:ag->ah->Prop}(o:s.heap.get? a=aa (gX b))(hz:b.size<=1099511627776)(h:Q (.int b.size (s.toks+1)) {s with toks:=s.toks+1+1}):bO (Md w) A (call (.builtin "len") [.ref a]) Q E s:=
 call_len_meets (⟨_,o,rfl⟩:s.TypeIs (.ref a) "bytearray") Eh CA (Ei _) (CF a b) (by lia) (by lia) (λι q=>⟨o,q⟩) h
end
section
open PySem.SeqAt
section
variable{X:Ctx}{w:bU}{A:aW}{s:ah}{ρ:fO}{h:bJ}{E:ag->ah->Prop}
theorem qP{M:dZ}{o i:ag}{T id:cZ}{sl:aQ}{Q:ag->ah->Prop}(hT:s.TypeIs o T)(l:dQ (.type T) "__getitem__"=pure (aa (.builtin id)))(d:GF sl=aw)(h:bO M A (Q_ o i) Q E s):bO M A (kI o>>=λp=>nI sl p o i) Q E s:=by
 refine ak ?_;refine ak (cI hT l (aH ?_));have e:GF sl=aw->nI sl ai o i=operate [o,i] (Q_ o i):=by
  clear d;rcases sl
  any_goals exactλι=>rfl
  exactλh=>soN h
 exact(e d)▸F9 h
theorem uB{M:dZ}{o i:ag}{T id:cZ}{d h' st p}{Q:ag->ah->Prop}(hT:s.TypeIs o T)(l:dQ (.type T) "__getitem__"=pure (aa (.builtin id)))(f:st=aw\/∃e,st=aa e)(h:bO M A (Q_ o i) Q E s):bO M A (kI o>>=λg=>nI (.Slice d h' st p) g o i) Q E s:=by
 refine ak ?_;rcases f with rfl|⟨e,rfl⟩
 ·exact ak (cI hT l (aH (F9 h)))
 ·exact ak (cI hT l (aH (F9 h)))
theorem gi.at:∀{l:V}{vs:ab ag},Rep X ρ h l .none vs->∀{k:ae}{v:V},z' l k=aa v->∃u,vs[k]? =aa u/\iU X ρ h v u:=by
 intro l
 induction l with
 |cons a r b d=>
  rintro vs ⟨u,us,rfl,f,g⟩ k v e
  induction k with
  |zero=>obtain rfl:=af e;exact⟨u,rfl,f⟩|succ k=>exact d g e
 |_=>intro vs r k v e;exact b6 e
theorem SS(h:idxOf n (.negSucc k)=aa j):k<n/\j=n - (k+1):=by
 have h:(match bH k n with|true=>aa (n - (k+1))|false=>aw)=aa j:=h
 induction e:bH k n with
 |true=>rw[e]at h;injection h with h;subst h;exact⟨blt e,rfl⟩
 |false=>rw[e]at h;exact b6 h
theorem Jk(h:idxOf n (.ofNat k)=aa j):k<n/\j=k:=by
 have h:(match bH k n with|true=>aa k|false=>aw)=aa j:=h
 induction e:bH k n with
 |true=>rw[e]at h;injection h with h;subst h;exact⟨blt e,rfl⟩
 |false=>rw[e]at h;exact b6 h
theorem GX:∀(l:ab ae)(k:ae),Z3 l k=l[k]?
 |[],b=>rfl|a::r,0=>rfl|a::r,k+1=>(GX r k).trans hL.symm
theorem Jl{k n:ae}(h:k<n):seqIndex? (k:Int) n=aa k:=by
 simp[seqIndex?,((RZ k): ¬(k:Int)<0),h]
theorem gi.take:∀{l:V}{vs:ab ag},gi X ρ h l vs->∀k,gi X ρ h (A1 k l) (vs.take k):=by
 intro l
 induction l with
 |nil=>rintro vs ⟨_,e⟩ k;have:vs=[]:=e;subst this;rcases k<;>exact⟨trivial,rfl⟩|cons a r b d=>
  rintro vs ⟨z,u,us,rfl,f,g⟩ k
  induction k with
  |zero=>exact⟨trivial,rfl⟩|succ k=>
   obtain⟨j,r'⟩:=d ⟨z,g⟩ k;exact⟨j,u,us.take k,rfl,f,r'⟩
 |_=>rintro vs ⟨z,_⟩;exact nomatch z
theorem gi.drop:∀{l:V}{vs:ab ag},gi X ρ h l vs->∀k,gi X ρ h (ud k l) (vs.drop k):=by
 intro l
 induction l with
 |nil=>rintro vs ⟨_,e⟩ k;have:vs=[]:=e;subst this;rcases k<;>exact⟨trivial,rfl⟩|cons a r b f=>
  rintro vs ⟨z,u,us,rfl,g,d⟩ k
  induction k with
  |zero=>exact⟨z,u,us,rfl,g,d⟩|succ k=>exact f ⟨z,d⟩ k
 |_=>rintro vs ⟨z,_⟩;exact nomatch z
theorem oy:∀(k:ae)(l:ab ae),ov k l=l.take k
 |0,b=>ab.take_zero.symm|k+1,[]=>rfl|k+1,a::r=>aY (a::·) (oy k r)
theorem yF:∀(k:ae)(l:ab ae),w7 k l=l.drop k
 |0,l=>rfl|k+1,[]=>rfl|k+1,_::r=>yF k r
theorem rD(X:Ctx)(k:ae)(l:ab ae):fm X (ov k l)=(fm X l).take k:=by rw[oy];exact ab.map_take
theorem rE(X:Ctx)(k:ae)(l:ab ae):fm X (w7 k l)=(fm X l).drop k:=by rw[yF];exact ab.map_drop
theorem Eu:∀{l:V}{vs:ab ag}{acc:V}{ws:ab ag},gi X ρ h l vs->gi X ρ h acc ws->gi X ρ h (lX l acc) (vs.reverse++ws):=by
 intro l
 induction l with
 |nil=>rintro vs acc ws ⟨_,e⟩ b;have:vs=[]:=e;subst this;exact b|cons a r c d=>
  rintro vs acc ws ⟨z,u,us,rfl,f,g⟩ b;have:=d (acc:=.cons a acc) (ws:=u::ws) ⟨z,g⟩ ⟨b.1,u,ws,rfl,f,b.2⟩;simp only[ab.reverse_cons,eo];exact this
 |_=>rintro vs acc ws ⟨z,_⟩;exact nomatch z
theorem NS(f:iU X ρ h v u):∀{l:V}{vs:ab ag},gi X ρ h l vs->∀{k:ae},k<vs.length->gi X ρ h (XC k v l) (vs.set k u):=by
 intro l
 induction l with
 |nil=>rintro vs ⟨_,e⟩ k q;have:vs=[]:=e;subst this;exact nomatch q|cons a r b g=>
  rintro vs ⟨z,x,us,rfl,j,d⟩ k q
  induction k with
  |zero=>exact⟨z,u,us,rfl,f,d⟩|succ k=>
   obtain⟨m,r'⟩:=g ⟨z,d⟩ (eV q);exact⟨m,x,_,rfl,j,r'⟩
 |_=>rintro vs ⟨z,_⟩;exact nomatch z
end
variable{G:Gm}{n:ae}{k:Kf}{σ:St}{a b i v:V}{u u1 u2 u3 u4:ag}{t:Sem ag}{α β:Type}{c:Rm α}{rep:Kf->α->β->Prop}{tt:Sem β}
theorem aN.uC(r:RV G k v u)(h:u=.none->aN G n k σ c rep tt):aN G n k σ (M.Internal.ja v c) rep tt:=by
 induction v using V.casesOn with
 |none=>exact h r|_=>exact aN.bW
theorem aN.l_{f:ae->Rm α}(r:RV G k v u)(h:∀i t,u=.int (.ofNat i) t->aN G n k σ (f i) rep tt):aN G n k σ (M.Internal.ei v f) rep tt:=by
 induction v using V.casesOn with
 |int i=>
  induction i with
  |ofNat i=>obtain⟨t,e⟩:=r;exact h i t e|negSucc a=>exact aN.bW
 |_=>exact aN.bW
noncomputable abbrev oz(sl:aQ)(u i:ag):Sem ag:=kI u>>=λp=>nI sl p u i
theorem SU(j n:ae):(tW j+(n:Int)).toNat=n - (j+1):=by
 rw[Int.add_comm,Int.negSucc_eq];exact Int.toNat_sub n (j+1)
theorem SV{sl:aQ}(z:GF sl=aw)(C:RV G k a u1)(H:RV G k i u2):aN G 4 k σ (XA a i) (RV G) (oz sl u1 u2):=
 aN.alt (aN.mn (T:=(oz sl · u2)) C λl x us D=>aN.ei H λj t2=>aN.eB λg=>aN.opt λv I=>aN.leaf λA Q E ι q=>by
  have hz:=ble g;refine ck λN=>?_;obtain⟨u,r,y⟩:=gi.at D.rep.rep I;obtain⟨o,O,d,n,S⟩:=D.tup;have f:j<us.length:=(aV.mp r).1;refine N ?_;exact qP ⟨o,O,d⟩ slot_tuple_getitem.lookup z (getItem_tuple (t:=x) (items:=us.toArray) ⟨o,O,d,n,S⟩ (by show _<=(j:Int);exact Int.neg_ofNat_le_natCast (2^63) j) (by show(j:Int)<_;lia) (Jl (by simpa using f)) (by simpa using r) (q u k.tk y)))
 (aN.alt (aN.cb (T:=(oz sl · u2)) C λι l p vs c L=>aN.eC H λj t2=>aN.opt λm R=>aN.opt λv I=>aN.leaf λA Q E ι q=>by
  obtain⟨u,r,y⟩:=gi.at L.rep.rep I;have J:=hA L.rep;have hz:=L.len;refine qP ⟨_,L.obj,rfl⟩ slot_list_getitem.lookup z ?_
  induction j with
  |ofNat j=>
   obtain⟨U,rfl⟩:=Jk R;exact wpAny_getItem_list (du L.obj) (c9 m) (by show(m:Int)<_;lia) (by simpa using r) (q u k.tk y)
  |negSucc j=>
   obtain⟨U,rfl⟩:=SS R;have e:tW j= -((j:Int)+1):=rfl;refine wpAny_getItem_list_neg (du L.obj) (vp j) (by rw[e,a7];lia) (by rw[e];lia) ?_ (q u k.tk y)
   have e2:(tW j+(vs.toArray.size:Int)).toNat=il l - (j+1):=by rw[a7,J];exact SU j _
   rw[e2];simpa using r)
 (aN.alt (aN.fu (T:=(oz sl · u2)) C λι l ι p es D=>aN.eB λf=>aN.opt λv I=>aN.leaf λA Q E ι q=>by
  refine ck λN=>?_;obtain⟨m,M⟩:=mM f;obtain⟨u,r,y⟩:=get_some (w:=G.w) D.rep M f I;refine N ?_;exact qP ⟨_,D.obj,rfl⟩ slot_dict_getitem.lookup z (wpAny_getItem_of (knd:=fH G.w) (k:=m) (key_is M H) (mapOf D.obj D.rep) r (q u _ y)))
 (aN.alt (aN.hH (T:=(oz sl · u2)) C λl t1=>aN.ei H λj t2=>aN.eB λhf=>aN.opt λc d=>aN.leaf λA Q E ι q=>by
  have hz:=ble hf;rw[fU]at hz;rw[GX]at d;have f:j<l.length:=(aV.mp d).1;refine qP (z6 _ _ t1) VI.lookup z (P.getItem_str (c:=c) ?_ ?_ (q _ _ ⟨_,rfl⟩))
  ·rw[i_]
   exact⟨bw (by exact kZ rfl),bw (by show ¬(j:Int)>=_;lia)⟩
  ·have:seqIndex? ((j:ae):Int) (jc l.toArray).length=aa j:=Jl (by simpa[wV] using f)
   rw[show cR j=((j:ae):Int) from rfl,this]
   simpa using d)
 (aN.fB (T:=(oz sl · u2)) C λl t1=>aN.ei H λj t2=>aN.eB λhf=>aN.opt λc d=>aN.leaf λA Q E ι q=>by
  have hz:=ble hf;rw[GX]at d;have f:j<l.length:=(aV.mp d).1;have W:(fm G.X l).length=l.length:=b9 ..;rw[fU]at hz;refine qP (jR _ _ t1) s8.lookup z (getItem_bytes (i:=cR j) (by lia) (c9 j) (by rw[W];exact xP.mpr f) (q _ _ ⟨k.tk,?_⟩))
  have e:(fm G.X l)[j]? =aa (bR c):=by simp only[fm,cL,d];rfl
  simp only[show(cR j).toNat=j from rfl,cx,e]
  show ag.int (((bR c).toNat:ae):Int) _=_;refine(show(bR c).toNat=bz c 256 from nG)▸?_
  rfl))))
theorem aN.XZ(h:∀A Q E,el A n->SR G k σ->(∀a h' tk x,k.h.get? a=aw->(∀b o,k.h.get? b=aa o->h'.get? b=aa o)->h'.get? a=aa x->x.cls≠.type "tuple"->(∀d,bY k.ρ k.h d h' []->ia G.X G.w.params d h' (a,a) o)->Q (.ref a) {sh G.b k with heap:=h',toks:=tk})->bk (Md G.w) A t Q E (sh G.b k)):aN G n k σ (new o) (RV G) t:=λv τ e S A Q E R q=>by
 refine ck λf=>?_;obtain⟨m,rfl,rfl⟩:=ox e;refine f ?_;exact h A Q E R S λa h' tk x cP f j z r=>by
  have nt:∀us,¬h'.IsTuple a us:=λus⟨y,C,l,_⟩=>by obtain rfl:=af (j.symm.trans C);exact z l
  obtain⟨hp,D,F⟩:=h5.alloc S (p:=(a,a)) (h' :=h') m f cP cP ⟨_,j⟩ ⟨_,j⟩ nt nt λg=>r _ g;exact q (.ref a) ⟨_,h',tk⟩ F D ⟨_,hp,rfl⟩
theorem aN.aaM(r:RL G k l us)(h:us.length<=4096->∀A Q E,el A n->SR G k σ->(∀a h' tk c,k.h.get? a=aw->(∀b o,k.h.get? b=aa o->h'.get? b=aa o)->h'.get? a=aa {cls:=.type "list",data:=.seq us.toArray c}->Q (.ref a) {sh G.b k with heap:=h',toks:=tk})->bk (Md G.w) A t Q E (sh G.b k)):aN G n k σ (qj l) (RV G) t:=
 aN.eB λf=>aN.XZ λA Q E R S q=>by
  have e:us.length<=4096:=by rw[hA r];exact ble f
  exact h e A Q E R S λa h' tk c d j x=>q a h' tk _ d j x (by simp) λm g=>⟨rfl,us,c,e,x,r.lst,r.rep.mono g NT.nil⟩
theorem aN.Wf(h:l.length<=4096->∀A Q E,el A n->SR G k σ->(∀a h' tk,k.h.get? a=aw->(∀b o,k.h.get? b=aa o->h'.get? b=aa o)->h'.get? a=aa (gX (fm G.X l).toArray)->Q (.ref a) {sh G.b k with heap:=h',toks:=tk})->bk (Md G.w) A t Q E (sh G.b k)):aN G n k σ (Cg l) (RV G) t:=
 aN.eB λf=>aN.XZ λA Q E R S q=>by
  have e:l.length<=4096:=by rw[<-fU];exact ble f
  exact h e A Q E R S λa h' tk d j x=>q a h' tk _ d j x (by simp) λm g=>⟨rfl,e,x⟩
theorem eR(X:Ctx)(l:ab ae):(fm X l).toArray.size=l.length:=by rw[a7];exact b9 ..
theorem X0{sl:aB}{lo d:ao Int}{l l2:ab ae}{t0:Tok}{f h' :ao aQ}{p:Pos}(g:k.h.IsSliceOf sl u2 u3 .none)(hf:Ai l=aq)(pl:IsPart u2 lo)(j:IsPart u3 d)(e:KBy.picked (fm G.X l).toArray lo d=(fm G.X l2).toArray):
  aN G n k σ (rt (.eN l2)) (RV G) (oz (.Slice f h' aw p) (.bytes (fm G.X l).toArray t0) (.ref sl)):=aN.leaf λA Q E ι q=>by
 have hz:=ble hf;rw[fU]at hz;refine uB (jR _ _ t0) s8.lookup (.inl rfl) (getItem_meets (jR _ _ t0) (by decide) s8 FB.entry_bytes_getitem (FB.args_bytes_getitem_2 _ _) (KBc.meets_slice2 _ t0 _ pl j) ⟨g,bq (KBc.size_picked_le _ _ _) (by simp only[bD,eR];lia),λm k=>?_⟩)
 rw[e];exact q _ k ⟨_,rfl⟩
theorem X1{sl:aB}{lo m:ao Int}{l l2:V}{j:ae}{c:ae}{g:aB×aB}{vs vs2:ab ag}{o h' st:ao aQ}{d:ao Int}{u4:ag}{p:Pos}(L:LstAt G k σ j l g vs c)(x:k.h.IsSliceOf sl u2 u3 u4)(pl:IsPart u2 lo)(y:IsPart u3 m)(ps:IsPart u4 d)(z:d≠aa 0)(C:st=aw\/∃e,st=aa e)(r:RL G k l2 vs2)(e:slicePick vs.toArray lo m d=vs2.toArray):
  aN G n k σ (qj l2) (RV G) (oz (.Slice o h' st p) (.ref g.1) (.ref sl)):=aN.aaL r λD A Q E R q S=>by
 have f:k.h.IsList g.1 vs.toArray:=du L.obj;have hz:=L.len;refine uB f.typeIs slot_list_getitem.lookup C (wpAny_getItem_list_slice f x pl y ps z ?_ (by simp only[bD,a7];lia))
 exact e▸q k.tk
theorem KA{α:Type}(l:ab α)(k:ae):l.take (min k l.length)=l.take k:=by
 rcases ae.le_total k l.length with h|h
 ·rw[f9 h]
 ·rw[VJ h,gf (aF _),gf h]
theorem KC{α:Type}(l:ab α)(k:ae):(l.drop (min k l.length)).take (l.length - min k l.length)=l.drop k:=by
 rw[gf (by rw[qe];exact aF _)]
 rcases ae.le_total k l.length with h|h
 ·rw[f9 h]
 ·rw[VJ h,Gp (aF _),Gp h]
set_option tactic.hygienic true in
theorem SW{sl:aB}{C h' :ao aQ}{p:Pos}(r:k.h.IsSliceOf sl u2 u3 .none)(J:RV G k a u1)(x:RV G k i u2)(y:RV G k b u3):aN G 4 k σ (Kk a i b) (RV G) (oz (.Slice C h' aw p) u1 (.ref sl)):=
 aN.alt (aN.fB (T:=(oz (.Slice C h' aw p) · (.ref sl))) J λl t1=>aN.eB λhf=>aN.alt (aN.uC x λe2=>aN.l_ y λj f e3=>by
   subst e2;subst e3;refine X0 r hf .none (.int _ f) ?_;have M:(fm G.X l).length=l.length:=b9 ..;rw[vt,rD,eR];show xu (F_ (Rb l.length (j:Int) - 0) (fm G.X l))=_;rw[tX,IE,<-M,KA])
  (aN.alt (aN.l_ x λj t2 e2=>aN.uC y λe3=>by
   subst e2;subst e3;refine X0 r hf (.int _ t2) .none ?_;have M:(fm G.X l).length=l.length:=b9 ..;rw[vt,rE,eR];show xu (F_ (l.length - Rb l.length (j:Int)) (F' (Rb l.length (j:Int)) (fm G.X l)))=_;rw[tX,<-M,KC])
  (aN.l_ x λj t2 e2=>aN.l_ y λm f e3=>aN.eB λz=>by
   refine ck λD=>?_;subst e2;subst e3;obtain⟨g,d⟩:=fS z;have g:=ble g;have d:=ble d;rw[fU]at d;refine D ?_;refine X0 r hf (.int _ t2) (.int _ f) ?_;rw[vt,rD,rE,eR];show xu (F_ (Rb l.length (m:Int) - Rb l.length (j:Int)) (F' (Rb l.length (j:Int)) _))=_;rw[tX,tX,f9 d,f9 (bq g d)])))
 (aN.alt (aN.hH (T:=(oz (.Slice C h' aw p) · (.ref sl))) J λl t1=>aN.uC x λe2=>aN.l_ y λj f e3=>aN.eB λz=>aN.leaf λA Q E ι q=>by
  refine ck λD=>?_;subst e2;subst e3;obtain⟨g,d⟩:=fS z;have g:=ble g;have d:=ble d;rw[fU]at g;have H:j<=(jc l.toArray).length:=g;refine D ?_;refine uB (z6 _ _ t1) VI.lookup (.inl rfl) (wpAny_getItem_str_slice (l:=aw) (u:=aa (cR j,f)) (st:=aw) (by obtain⟨o,N,z,O⟩:=r;exact⟨o,N,z,O⟩) rfl ?_)
  have e0:VK (jc l.toArray) aw (aa (cR j,f)) aw=lU (aa ((0:ae):Int)) (aa ((j:ae):Int)) 1 (jc l.toArray).length:=by
   show lU aw (aa ((j:ae):Int)) 1 (jc l.toArray).length=_;have P:max (0:Int) (min 0 (((jc l.toArray).length:ae):Int))=0:=(Int.max_self 0);simp only[lU,((RZ j): ¬((j:Int)<0)),pP];simp;rw[P]
  have pl:(VK (jc l.toArray) aw (aa (cR j,f)) aw).length=j:=by
   simp only[e0,StrLaws.strSliceIndices_plain (bj _) H];simp
  have U:(VK (jc l.toArray) aw (aa (cR j,f)) aw).filterMap ((jc l.toArray).cps[·]?)=ov j l:=by
   simp only[e0,StrLaws.sliced_plain (jc l.toArray) (a:=0) (b:=j) (bj _) H,oy];simp
  unfold sliceMade;refine U▸?_
  split
  ·rename_i W
   have I:=eF.mp (fS W).2;rw[pl]at I;have e:ov j l=l:=by rw[oy,gf (by rw[I];exact aF _)]
   exact(e▸q) _ _ ⟨_,rfl⟩
  ·refine⟨?_,q _ _ ⟨_,rfl⟩⟩
   rw[bD,oy];simp only[wV,a7,hK];lia)
 (aN.alt (aN.cb (T:=(oz (.Slice C h' aw p) · (.ref sl))) J λι l Y vs c L=>aN.alt (aN.uC x λe2=>aN.l_ y λj f e3=>by
   subst e2;subst e3;exact X1 L r .none (.int _ f) .none (λe=>b6 e) (.inl rfl) (L.rep.take j) (slicePick_upto' ..))
  (aN.l_ x λj t2 e2=>aN.uC y λe3=>by
   subst e2;subst e3;exact X1 L r (.int _ t2) .none .none (λe=>b6 e) (.inl rfl) (L.rep.drop j) (slicePick_from' ..)))
 (aN.n5 (T:=(oz (.Slice C h' aw p) · (.ref sl))) J λι l Y B=>aN.l_ x λj t2 e2=>aN.l_ y λm f e3=>aN.eB λz=>aN.Wf λM A Q E R S q=>by
  refine ck λD=>?_;subst e2;subst e3;obtain⟨g,d⟩:=fS z;have d:=ble d;rw[fU]at d;have hz:=B.len;refine D ?_;refine aT (uB ⟨_,B.obj,rfl⟩ lY.lookup (.inl rfl) (Eo (s:=sh G.b k) B.obj r (ble g) (by rw[eR];exact d) (by simp only[eR,bD];lia) ?_))
  rw[(by rw[rD,rE]:(((fm G.X l).toArray.toList.drop j).take (m - j)).toArray=(fm G.X (ov (m - j) (w7 j l))).toArray)]
  exact q (sz k) _ k.tk (cO (aF _)) dt (bA _ rfl))))
theorem SX{sl:aB}{t0:Tok}{st:aQ}{p:Pos}(d:k.h.IsSliceOf sl .none .none (.int (-1) t0))(r:RV G k a u1):aN G 4 k σ (XB a) (RV G) (oz (.Slice aw aw (aa st) p) u1 (.ref sl)):=
 aN.cb (T:=(oz (.Slice aw aw (aa st) p) · (.ref sl))) r λι l e vs c L=>X1 L d .none .none (.int (-1) t0) (by decide) (.inr ⟨_,rfl⟩) (vs2:=vs.reverse)
  (by have:=Eu (acc:=.nil) (ws:=[]) L.rep ⟨trivial,rfl⟩;rwa[dj]at this) (krv_pick _)
end
section
open PySem.SeqAt
theorem lJ(c:ae):∀(l:ab ae)(n:ae),encL (l++[c]) n=encL l n*256+c
 |[],a=>rfl|_::l,_=>lJ c l _
theorem yG:∀(l:ab ae)(n:ae),1<=n->1<=encL l n
 |[],a,h=>h|c::l,n,h=>yG l _ (bq h (bq (ae.le_mul_of_pos_right n (by decide)) (bp _ c)))
theorem A8(h:good (a::l)=aq):a<256/\good l=aq:=by
 have h:cS (bH a 256) (good l) ai=aq:=h
 induction q:bH a 256 with
 |true=>rw[q]at h;exact⟨blt q,h⟩|false=>rw[q]at h;exact fT h
theorem qQ:∀{l:ab ae},good (l++[c])=aq->good l=aq/\c<256
 |[],h=>⟨rfl,(A8 h).1⟩|a::l,h=>by
  obtain⟨d,e⟩:=A8 h;obtain⟨f,g⟩:=qQ e;refine⟨?_,g⟩;show cS (bH a 256) (good l) ai=aq;rw[ae.blt_eq.mpr d];exact f
theorem digit(h:a*256+c=b*256+d)(f:c<256)(g:d<256):a=b/\c=d:=by
 have e:∀{x y:ae},y<256->(x*256+y)/ 256=x:=λ{x y}l=>by rw[ae.mul_comm,Xa (by decide),ae.div_eq_of_lt l];rfl
 have q:a=b:=(e f).symm.trans ((aY (· / 256) h).trans (e g));exact⟨q,ae.add_left_cancel (q▸h)⟩
theorem Ew:∀(k:ae)(l m:ab ae),l.length=k->good l=aq->good m=aq->encL l 1=encL m 1->l=m
 |0,l,m,f,a,j,e=>by
  have:l=[]:=qf.mp f;subst this;rcases rZ m with rfl|⟨g,d,rfl⟩
  ·rfl
  ·exfalso
   rw[r0,lJ]at e;have:=yG g 1 (aF _);have e:1=encL g 1*256+d:=e;exact er (bq (bq (IF 256 this) (bp _ d)) (iz e.symm)) (by decide)
 |k+1,l,m,f,gl,j,e=>by
  rcases rZ l with rfl|⟨o,c,rfl⟩
  ·exact nomatch f
  ·rcases rZ m with rfl|⟨g,d,rfl⟩
   ·exfalso
    rw[r0,lJ]at e;have:=yG o 1 (aF _);have e:encL o 1*256+c=1:=e;exact er (bq (bq (IF 256 this) (bp _ c)) (iz e)) (by decide)
   ·simp only[r0]at gl j e f⊢
    rw[lJ,lJ]at e;refine ck λr=>?_;obtain⟨g1,p⟩:=qQ gl;obtain⟨g2,q⟩:=qQ j;refine r ?_;rw[Ew k o g (by rw[bV]at f;exact o8 f) g1 g2 (digit e p q).1,(digit e p q).2]
theorem vR(a:fA x=aa n):DY x.cps.toList=aq/\enc x=n:=by
 unfold fA at a
 induction g:DY x.cps.toList with
 |true=>rw[g]at a;obtain rfl:=af a;exact⟨rfl,rfl⟩|false=>rw[g]at a;exact b6 a
theorem Jm(h:DY l=aq):good l=aq:=by
 unfold DY at h
 induction g:M8 l with
 |true=>rw[g]at h;exact fT h|false=>rw[g]at h;exact h
theorem mV(a:fA x=aa n)(b:fA y=aa n):x=y:=by
 obtain⟨g,e⟩:=vR a;obtain⟨c,d⟩:=vR b;have:=Ew _ _ _ rfl (Jm g) (Jm c) (e.trans d.symm);clear n a b g e c d;rcases x;rcases y;exact aY jc (pT.mp this)
theorem GY(h:D0 name=aa x):fA name=aa x/\XH x=aq:=by
 unfold D0 at h
 induction e:fA name with
 |none=>exact b6 (e▸h)|some n=>
  replace h:=e▸h
  induction ok:XH n with
  |true=>simp only[ok]at h;obtain rfl:=af h;exact⟨rfl,ok⟩|false=>simp only[ok]at h;exact b6 h
theorem hQ(n:ae)(v:V)(m:ae):∀re:aX,c0 (jY re n v) m=if m=n then aa v else c0 re m
 |[]=>by
  show@dD (λι=>ao V) aw (aa v) (au m n)=_;rw[TR.js]
  by_cases h:m=n
  ·rw[bc h,cc h]
  ·rw[aU h,bw h];rfl
 |(y,u)::r=>by
  show c0 (@dD (λι=>aX) ((y,u)::jY r n v) ((y,v)::r) (au n y)) m=if m=n then aa v else@dD (λι=>ao V) (c0 r m) (aa u) (au m y)
  rw[TR.js n y,TR.js m y]
  by_cases c:n=y
  ·subst c
   rw[cc rfl];show@dD (λι=>ao V) (c0 r m) (aa v) (au m n)=_;rw[TR.js]
   by_cases h:m=n
   ·rw[bc h,cc h]
   ·rw[aU h,bw h]
  ·rw[bw c]
   show@dD (λι=>ao V) (c0 (jY r n v) m) (aa u) (au m y)=_;rw[TR.js,(hQ n v m r)]
   by_cases h:m=y
   ·have d: ¬m=n:=λq=>c (q.symm.trans h)
    rw[cc h,aU d,aU d]
   ·rw[bw h]
theorem Ex(x:ae)(v:V):∀as:aX,(jY as x v).length=(if (c0 as x).isSome then as.length else as.length+1)
 |[]=>rfl|(y,u)::r=>by
  show km (@dD (λι=>aX) ((y,u)::jY r x v) ((y,v)::r) (au x y))=(if ao.isSome (@dD (λι=>ao V) (c0 r x) (aa u) (au x y)) then _ else _)
  induction au x y with
  |true=>rfl|false=>
   show(jY r x v).length+1=if (c0 r x).isSome then _ else _
   refine((Ex x v r))▸?_;rcases(c0 r x).isSome<;>rfl
theorem Jn:∀as:aX,Xv as=as.length
 |[]=>rfl|_::r=>aY ar (Jn r)
structure CG(X:Ctx)(K:jT):Prop where
 kin:K.In X.h0
 dict:∀c,hasDictIn K (X.h_ c)=aq
 get:∀c,pU K (.ref (X.h_ c)) "__getattribute__"=aa (aa (.builtin "object.__getattribute__"))
 set:∀c,pU K (.ref (X.h_ c)) "__setattr__"=aa (aa (.builtin "object.__setattr__"))
 plain:∀c,plainOver K (X.h_ c)=aq
 none:∀c name x,D0 name=aa x->pU K (.ref (X.h_ c)) name=aa aw
section
variable{X:Ctx}{w:bU}{A:aW}{s:ah}{ρ:fO}{h:bJ}{E:ag->ah->Prop}
theorem GZ(c:V7 v=aq)(r:iU X ρ h v u):handedIn u=aq:=by
 induction v using V.casesOn with
 |none=>subst r;rfl|bool b=>subst r;rfl|int i=>obtain⟨t,rfl⟩:=r;rfl|str l=>obtain⟨t,rfl⟩:=r;rfl|eN l=>obtain⟨t,rfl⟩:=r;rfl|tup l=>obtain⟨a,us,rfl,_⟩:=r;rfl|a4 n=>obtain⟨p,_,rfl⟩:=r;rfl|fn k=>subst r;rfl|cls k=>subst r;rfl|_=>exact nomatch c
theorem uD(c:StrKeys es):es.any (·.refKey)=ai:=by
 rw[Array.any_eq_false'];intro e he;obtain⟨n,t,h⟩:=c e he;simp[aZ.refKey,h]
theorem Jo{m:Str->ao ag}(d:h.Ns a m)(e:h.get? a=aa od)(x:Str):lookIn x od=aa (m x):=by
 refine ck λf=>?_;obtain⟨o,es,ep,c,g,j,hf⟩:=d;obtain rfl:=af (e.symm.trans c);refine f ?_;unfold lookIn;rw[g];dsimp only;simp only[<-hf x,tY,wU,<-Mp]
 induction he:es.toList.find? (·.key.isStr x) with
 |some l=>rfl|none=>
  have:=uD j;rw[<-Rd]at this;show(if es.toList.any (·.refKey) then _ else _)=_
  rw[this];rfl
theorem SY(f:od.data=.dict es n):
  ∃es' n',(Obj.putName name hsh key v od).data=.dict es' n'/\es'.size=(if es.any (·.key.isStr name) then es.size else es.size+1):=by
 obtain⟨c,d,g,sl⟩:=od;subst f;obtain⟨l⟩:=es;rw[Obj.putName_eq];unfold Obj.putNameByArray;have e:=any_of_findIdx name l;simp only[lT,ab.any_toArray]
 induction hf:ab.findIdx? (λx=>x.key.isStr name) l with
 |none=>replace e:=hf▸e;exact⟨_,_,rfl,by rw[<-e];simp⟩|some i=>rw[hf]at e;exact⟨_,_,rfl,by rw[<-e];simp⟩
def tx(b:ah)(c:ag->ah->Prop)(M:dZ)(a:aB)(m:Str->ao ag)(e:Str)(v:ag)(Q:jb->ah->Prop)(d:Obj)(f:Array aZ)(n:ae):Prop:=∀{A:aW}(g:b.heap.Ns a m)(j:b.heap.get? a=aa d)(l:d.data=.dict f n)(h:∀h',h'.Ns a (λx=>if x=e then aa v else m x)->dy a b.heap h'->(∃o es' n',h'.get? a=aa o/\o.data=.dict es' n'/\es'.size=(if f.any (·.key.isStr e) then f.size else f.size+1))->Q () {b with heap:=h',toks:=b.toks+1}),bO M A (nsSet a e v) Q c b
def yH:=λx:((_×_)×_×_×_)×(_×_×_)×_×_×_=>tx x.1.1.1 x.1.1.2 x.1.2.1 x.1.2.2.1 x.1.2.2.2 x.2.1.1 x.2.1.2.1 x.2.1.2.2 x.2.2.1 x.2.2.2.1 x.2.2.2.2
def gj:=haveI:=lx;haveI:=uc;qy bB yH
namespace yI
def b:=gj.1.1.1
def c:=gj.1.1.2
def M:=gj.1.2.1
def a:=gj.1.2.2.1
def m:=gj.1.2.2.2
def e:=gj.2.1.1
def v:=gj.2.1.2.1
def Q:=gj.2.1.2.2
def d:=gj.2.2.1
def f:=gj.2.2.2.1
def n:=gj.2.2.2.2
theorem ok:tx b c M a m e v Q d f n:=by
 intro A C g j h;refine ck λl=>?_;obtain⟨o,es',ep,q,r,H,I⟩:=id C;obtain rfl:=af (g.symm.trans q);clear I
 cases j.symm.trans r
 refine l ?_;intro D p J;have key:=Sem.wp_nsSet M D (λx ι y=>c x y) p b C e v (λι ι y=>∃F,y.heap=F/\F.Ns a (λx=>if x=e then aa v else m x)) (λh' z ι=>⟨h',rfl,z⟩)
 simp only[nsSet,strHash,Ir,Sem.wp_cmd_ask,Sem.wp_pure',Sem.wp_cmd_mkText]at key⊢;rw[Sem.wp_loadPart_of M D _ p {b with toks:=b.toks+1} (o:=d) _ g]at key⊢
 simp only[j,aRefKeyMayBeTheName_eq,aRefKeyMayBeTheNameByArray,(uD H),aE.and_false,ft,pP,Sem.wp_cmd_updatePart]at key⊢;obtain⟨L,_,rfl,N⟩:=key;refine⟨L,h _ N (eM ..) ?_⟩;refine ck λl=>?_;obtain⟨es',n',e1,e2⟩:=SY (name:=e) (hsh:=if e.cps.isEmpty=aq then 0 else reduceHash (M.w.params.strHash e.cps)) (key:=.str e b.toks) (v:=v) j
 refine l ?_;exact⟨_,es',n',dw _ g (jE e1),e1,e2⟩
end yI
theorem KD:tx s E M a m name v Q od es n:=@d5 _ _ yH @yI.ok (((s,E),M,a,m),(name,v,Q),od,es,n)
theorem NU{m:Str->ao ag}(hf:∀name,tY es name=m name):es.any (·.key.isStr name)=(m name).isSome:=by
 rw[<-hf name,tY,wU,ao.isSome_map,<-Rd,<-Mp]
 induction es.toList with
 |nil=>rfl|cons e l c=>
  simp only[ab.any_cons,VL,c];rcases e.key.isStr name<;>rfl
noncomputable abbrev mz(es:ab aZ)(n:ae):Obj:={cls:=.type "dict",data:=.dict es.toArray n}
theorem xg{Q:jb->ah->Prop}(y:fG k key=aq)(o:s.heap.get? d=aa (mz es ep))(g:∀e∈es,∃k,fG k e.key=aq/\e.hash=mixHash w k)(hz:es.length<=4096)(c:∀h' es' p,(match es.findIdx? (λe=>fG k e.key) with|some i=>es' =es.modify i (λe=>{e with val:=u})/\p=ep|none=>es' =es++[⟨mixHash w k,key,u⟩]/\p=ep+1)->h'.get? d=aa (mz es' p)->dy d s.heap h'->Q () {s with heap:=h',toks:=s.toks+1}):
  bO (Md w) A (dictSet d key u) Q E s:=by
 have y:(fH w).is k key=aq:=y;unfold dictSet
 try with_reducible refine dk ?_
 refine ak ((fH w).pyHash y ?_);unfold dictSetHashed
 try with_reducible refine dk ?_
 refine ak (wpAny_dictFind_of (s:={s with toks:=s.toks+1}) y o rfl (λe he=>g e (by simpa using he):KeysOf (fH w) es.toArray) ?_)
 have e0:es.toArray.findIdx? (λe=>(fH w).is k e.key)=es.findIdx? (λe=>fG k e.key):=lT _ _;refine e0▸?_
 induction f:es.findIdx? (λe=>fG k e.key) with
 |some i=>
  rw[f]at c;refine ak (kX (ak (wpAny_updateDict (s:={s with toks:=s.toks+1}) o rfl (VD (c _ _ ep ⟨rfl,rfl⟩ ?_ (eM ..))))))
  rw[dw _ o (jE (Obj.data_mapDict rfl _))];show aa ({cls:=.type "dict",data:=.dict (es.toArray.modify i _) ep}:Obj)=_;rw[ab.modify_toArray]
 |none=>
  replace c:=f▸c
  refine ak (kX (wX (s:={s with toks:=s.toks+1}) o rfl (c _ _ (ep+1) ⟨rfl,rfl⟩ ?_ (eM ..)) (hz:=by simp only[bD,a7];lia)))
  rw[dw _ o (jE (tZ rfl _))];show aa ({cls:=.type "dict",data:=.dict (es.toArray.push _) (ep+1)}:Obj)=_;rw[ab.push_toArray];rfl
theorem vT{vs:ab ag}{Q:jb->ah->Prop}(p:i=.ofNat j)(m:s.heap.get? l=aa {cls:=.type "list",data:=.seq vs.toArray c})(r:j<vs.length)(hz:vs.length<=4096)(x:∀h' y,h'.get? l=aa {cls:=.type "list",data:=.seq (vs.set j v).toArray y}->dy l s.heap h'->Q () {s with heap:=h'}):
  bO (bK prog w) A (qF (.ref l) (.int i t) v) Q E s:=by
 have hT:s.TypeIs (.ref l) "list":=⟨_,m,rfl⟩;unfold qF
 try with_reducible refine dk ?_
 refine ak (qD hT (by decide) ?_)
 refine ak (lq (name:=aL "__setitem__") hT slot_list_setitem
  (eS slot_list_setitem hT entry_list_setitem ?_ (args_list_setitem _ _ _)))
 show bO _ _ (Builtin.List.listSubscript? (.int i t)>>=_) _ _ s;have q:0<=i:=by rw[p];exact c9 j
 have f:i<2^63:=by have:i=(j:Int):=p;lia
 refine ak (wpAny_listSubscript_int (fitsIndex_of q f) ?_);clear f;clear q;subst p;refine ak (ak (wpAny_seqItemAt m rfl (aH ?_)));refine(by simp[r]:vs.toArray[j]? =aa vs[j])▸?_
 have e:vs.toArray.setIfInBounds j v=(vs.set j v).toArray:=by simp
 obtain⟨n',d⟩:=Obj.data_mapSeq (o:={cls:=.type "list",data:=.seq vs.toArray c}) rfl (·.setIfInBounds j v);have g:(s.heap.update l (cp (·.setIfInBounds j v))).get? l=aa {cls:=.type "list",data:=.seq (vs.set j v).toArray n'}:=by
  rw[dw _ m (Obj.isFreed_of_seq d)];show aa ({cls:=.type "list",data:=(cp (·.setIfInBounds j v) {cls:=.type "list",data:=.seq vs.toArray c}).data}:Obj)=_;rw[d,e]
 refine ak (wpAny_setSeqItemAt m rfl ?_);exact aH ⟨.none,rfl,aH (x _ _ g (eM ..))⟩
end
variable{G:Gm}{n:ae}{k:Kf}{σ:St}{a b i v:V}{u u1 u2 u3 u4:ag}{t:Sem jb}
theorem aN.put(g:σ.t.get j=aa o)(hp:k.ρ[j]? =aa p)(h:∀A Q E,el A n->SR G k σ->(∀h' tk,(∀b x,b≠p.1->b≠p.2->k.h.get? b=aa x->h'.get? b=aa x)->(∃o,h'.get? p.1=aa o)->(∃o,h'.get? p.2=aa o)->(bY k.ρ k.h k.ρ h' []->ia G.X G.w.params k.ρ h' p o')->Q () {sh G.b k with heap:=h',toks:=tk})->bk (Md G.w) A t Q E (sh G.b k)):aN G n k σ (M.Internal.put j o') RU t:=λv τ e S A Q E R q=>by
 cases j with
 |zero=>exact b6 e|succ j=>
 refine ck λc=>?_;obtain⟨rfl,rfl⟩:=av (af e);refine c ?_;exact h A Q E R S λh' tk c l1 l2 r=>by
  obtain⟨d,l⟩:=h5.put S (o' :=o') (k9 j) g hp c l1 l2 r;exact q () ⟨_,h',tk⟩ l d trivial
theorem aN.X2(g:σ.t.get j=aa o)(hp:k.ρ[j]? =aa p)(e2:p.2=p.1)(h:∀A Q E,el A n->SR G k σ->(∀h' tk y,(∀b x,b≠p.1->k.h.get? b=aa x->h'.get? b=aa x)->h'.get? p.1=aa y->(bY k.ρ k.h k.ρ h' []->ia G.X G.w.params k.ρ h' p o')->Q () {sh G.b k with heap:=h',toks:=tk})->bk (Md G.w) A t Q E (sh G.b k)):aN G n k σ (M.Internal.put j o') RU t:=
 aN.put g hp λA Q E R S q=>h A Q E R S λh' tk y d c r=>q h' tk (λb x f ι e=>d b x f e) ⟨y,c⟩ ⟨y,e2▸c⟩ r
theorem NV(O:RV G k a u1)(H:RV G k i u2)(P:RV G k v u3):aN G 2 k σ (XD a i v) RU (qF u1 u2 u3):=
 aN.alt (aN.fu (T:=(qF · u2 u3)) O λι l ep p es D=>aN.eB λz=>aN.X2 D.get D.sC D.two λA Q E R S q=>by
  have U:=(fS z).1;have d:=(fS z).2;have d:=ble d;obtain⟨m,f⟩:=mM U;have hT:(sh G.b k).TypeIs (.ref p.1) "dict":=⟨_,D.obj,rfl⟩;have st:=eJ.set (w:=G.w) D.rep (v:=v) (u:=u3) (key:=u2) f U P H;have hl:=eJ.len (w:=G.w) D.rep;refine aT ?_;unfold qF
  try with_reducible refine dk ?_
  refine ak (qD hT (by decide) ?_)
  refine ak (lq (name:=aL "__setitem__") hT slot_dict_setitem
   (eS slot_dict_setitem hT entry_dict_setitem ?_ (args_dict_setitem _ _ _)))
  refine ak (mQ hT ?_);show bO _ _ (dictSet p.1 u2 u3>>=_) _ _ _;refine ak (xg (s:=sh G.b k) (key_is f H) D.obj (eJ.keys (w:=G.w) D.rep) D.len λh' es' I C r J=>aH ⟨.none,rfl,aH ?_⟩);have fin:I=aax (qi l i) ep/\RD G k (DX l i v) es'/\es'.length<=4096:=by
   unfold qi;generalize getD l i=o at st⊢
   induction st with
   |old F y=>
    rw[F]at C;obtain⟨rfl,rfl⟩:=C;exact⟨rfl,y,by rw[ab.length_modify];exact D.len⟩
   |new W y=>
    rw[W]at C;obtain⟨rfl,rfl⟩:=C;exact⟨rfl,y,by rw[bV];show es.length+1<=_;lia⟩
  refine ck λY=>?_;obtain⟨rfl,y,M⟩:=fin;refine Y ?_;exact q h' _ _ (λb x N e=>(J.2 b N).trans e) r λg=>⟨D.two,es',M,r,y.map (Rep.mono g NT.nil)⟩)
 (aN.cb (T:=(qF · u2 u3)) O λι l p vs c L=>aN.l_ H λj t2 e2=>aN.eB λz=>aN.X2 L.get L.sC L.two λA Q E R S q=>by
  subst e2;have F:j<vs.length:=by rw[hA L.rep];exact blt z
  refine aT (vT (s:=sh G.b k) rfl L.obj F L.len λh' Z r J=>?_);have r' :=NS P L.rep F;exact q h' k.tk _ (λb x N e=>(J.2 b N).trans e) r λg=>⟨L.two,_,Z,by rw[ab.length_set];exact L.len,r,r'.lst,r'.rep.mono g NT.nil⟩)
theorem KG(y:k.h.IsSliceOf sl u2 u3 .none)(z:RV G k a u1)(C:RV G k i u2)(D:RV G k b u3)(F:RV G k v u4):aN G 2 k σ (Nd a i b v) RU (qF u1 (.ref sl) u4):=
 aN.n5 (T:=(qF · (.ref sl) u4)) z λι l p B=>aN.fB (T:=(qF (.ref p.1) (.ref sl) ·)) F λc O=>aN.l_ C λj t2 e2=>aN.l_ D λm P e3=>aN.eB λH=>aN.X2 B.get B.sC B.two λA Q E R S q=>by
  refine ck λI=>?_;subst e2;subst e3;obtain⟨d,f⟩:=fS H;have r:=(fS d).1;have o:=(fS d).2;have r:=ble r;have o:=ble o;have f:=ay f;rw[fU]at o f;have hz:=B.len;refine I ?_;refine Er (s:=sh G.b k) B.obj y r (by rw[eR];exact o) (by simp only[eR,bD];exact bq hz (by decide)) (by rw[eR];exact f.symm) λJ e1 L=>?_
  have M:((fm G.X l).toArray.toList.take j++(fm G.X c).toArray.toList++(fm G.X l).toArray.toList.drop m).toArray=(fm G.X (qH (ov j l) (qH c (w7 m l)))).toArray:=by
   simp only[mT,mT,rD,rE,eo]
  replace e1:=M▸e1
  exact q J k.tk _ (λb x N e=>L b x N e) e1 λg=>⟨B.two,by
   simp only[rn,rn,oy,yF,bV,bV,hK,qe];exact adZ r o f.symm hz,e1⟩
section
variable{K:jT}
theorem Jc.inst{m od es ep}(I:Jc G k σ j c as p m od es ep):InstAt k.h p.1 ⟨.ref (G.X.h_ c),aa p.2,.plain,#[]⟩ (G.X.h_ c) (aa od):=⟨I.obj,rfl,rfl,I.We⟩
theorem CH(AO:CG G.X K)(S:SR G k σ):K.In k.h:=λb o e=>S.base b o (AO.kin b o e)
theorem NW(AO:CG G.X K)(d:D0 name=aa x)(r:RV G k a u):aN G 4 k σ (XE a x) (RV G) (Q8 u name aq):=
 aN.o_ (T:=(Q8 · name aq)) r λι c as p m od es ep I=>aN.opt λv g=>aN.eB λj=>aN.A7 λS=>aN.leaf λA Q E ι q=>by
  have e:=I.rep name x (GY d).1;rw[g]at e;obtain⟨u,l,f⟩:=e;exact get_value (s:=sh G.b k) (CH AO S) I.inst (AO.get c) (findObj_own (AO.dict c) (AO.none c name x d) rfl (by rw[Jo I.ns I.We,l])) (GZ j f) (q u _ f)
theorem NX(AO:CG G.X K)(W:D0 name=aa x)(Z:RV G k a u1)(r2:RV G k v u2):aN G 2 k σ (aay a x v) RU (setAttr u1 name u2):=
 aN.o_ (T:=(setAttr · name u2)) Z λι c as p m od es ep I=>aN.eB λo=>aN.put I.get I.sC λA Q E R S q=>by
  obtain⟨C,D⟩:=GY W;have F:=CH AO S;have hm:es.any (·.key.isStr name)=(m name).isSome:=by
   refine ck λkk=>?_;obtain⟨o2,es2,ep2,H,J,hk2,L⟩:=I.ns;obtain rfl:=af (I.We.symm.trans H)
   cases I.data.symm.trans J
   refine kk ?_;exact NU L
  have M:(c0 as x).isSome=(m name).isSome:=by
   have:=I.rep name x C
   induction hz:c0 as x with
   |some z=>rw[hz]at this;obtain⟨_,e,_⟩:=this;rw[e];rfl|none=>rw[hz]at this;rw[this];rfl
  have o:(c0 as x).isSome=aq\/as.length<=900:=by
   unfold V8 at o
   induction hz:c0 as x with
   |some z=>exact .inl rfl|none=>exact .inr (by have:=ble (hz▸o);rwa[Jn]at this)
  obtain⟨cd,hc,N⟩:=any_some (AO.dict c);refine aT (set_plain F I.inst (AO.set c) (osa_open (r:=aw) (s:={sh G.b k with toks:=k.tk+1}) F I.inst (AO.plain c) (by unfold takerIn;rw[(AO.none c name x W:pU K (.ref (G.X.h_ c)) name=aa aw)];rfl) λb=>?_))
  refine ak (aH (ak (ak (wpAny_loadPart I.obj (ak (Iv.here (s:={sh G.b k with toks:=k.tk+1}) (looks_clsIn F hc) ?_))))))
  rw[N];refine aH (a:=aa p.2) (ak (aH (ak ?_)));refine KD (s:={sh G.b k with toks:=k.tk+1}) I.ns I.We I.data λh' O f⟨P,es',n',e1,e2,e3⟩=>?_
  have hsz:=I.len;have hz:es'.size<=1000/\es'.size<=(jY as x v).length:=by
   rw[Ex,e3,hm,M];rcases o with j|j
   ·rw[M]at j;rw[bc j,bc j];exact And.symm I.len
   ·rcases(m name).isSome<;>simp only[AW,pP,ft]<;>first|exact And.symm I.len|exact⟨bq (VR (bq I.len.1 j)) (by decide),VR I.len.1⟩
  refine ak (sk e1 (by exact e2▸DF (by rw[bD];exact bq hz.1 (by decide))) (aH ?_))
  have d:h'.get? p.1=k.h.get? p.1:=f.2 p.1 λe=>I.ne e.symm;refine q h' _ (λb x ι nb e=>(f.2 b nb).trans e) ⟨_,d.trans I.obj⟩ ⟨_,e1⟩ λg=>⟨I.ne,_,d.trans I.obj,⟨P,es',n',e1,e2,hz.2,hz.1⟩,O,λk' z U=>?_,λy k' l=>?_⟩
  ·rw[hQ]at U
   by_cases e:k' =x
   ·rw[e];exact D
   ·rw[aU e]at U;exact I.ok k' z U
  ·rw[hQ]
   by_cases e:k' =x
   ·clear M
    subst e;have:y=name:=mV l C;subst this;rw[bc rfl];exact⟨u2,bc rfl,r2.mono g NT.nil⟩
   ·rw[aU e]
    have Y:y≠name:=λq=>e (by rw[q,C]at l;exact(af l).symm)
    have:=I.rep y k' l
    induction hz:c0 as k' with
    |some z=>rw[hz]at this;obtain⟨u,hu,ru⟩:=this;exact⟨u,(aU Y).trans hu,ru.mono g NT.nil⟩|none=>rw[hz]at this;exact(aU Y).trans this
end
end
section
open PySem.SeqAt
section
variable{X:Ctx}{w:bU}{A:aW}{s:ah}{ρ:fO}{h h' :bJ}{E:ag->ah->Prop}
theorem CJ(n:Int)(c:ab Int):(Rg (n::c)).toList=bR n.toNat::(Rg c).toList:=by simp[Rg]
theorem uE:∀{l:V}{b:ab ae}{vs:ab ag},ly l=aa b->Rep X ρ h l .none vs->∃d:ab Int,IntsAre vs d/\(∀n∈d,0<=n/\n<256)/\(Rg d).toList=fm X b:=by
 intro l
 induction l with
 |nil=>
  intro b vs he r;obtain rfl:=af he;have:vs=[]:=r;subst this;exact⟨[],.nil,(λι q=>sr q),rfl⟩
 |cons a t k f=>
  intro b vs he r;obtain⟨u,us,rfl,g,rt⟩:=r
  induction a using V.casesOn with
  |int i=>
   induction i with
   |ofNat n=>
    have he:(match bH n 256 with|true=>(match ly t with|some r=>aa (n::r)|none=>aw)|false=>aw)=aa b:=he
    induction c:bH n 256 with
    |true=>
     induction hb:ly t with
     |some y=>
      simp only[c,hb]at he;injection he with he;subst he
      refine ck λj=>?_;obtain⟨d,o,p,x⟩:=f hb rt;obtain⟨tk,rfl⟩:=g;have c:=blt c;refine j ?_;refine⟨(n:Int)::d,IntsAre.cons _ _ o,λm e=>?_,?_⟩
      ·rcases aG.mp e with rfl|e
       ·exact⟨c9 n,xP.mpr c⟩
       ·exact p m e
      ·simp only[CJ,x]
       rfl
     |none=>simp only[c,hb]at he;exact b6 he
    |false=>exact b6 (c▸he)
   |negSucc=>exact b6 he
  |_=>exact b6 he
 |_=>intro b vs he;exact b6 he
theorem X3(d:qm y=aa k)(c:fG k u=aq):iU X ρ h y u:=by
 induction rp d with
 |int=>exact eh c|str=>exact ee c
theorem KH:∀{es:ab aZ}{kvs:ab (MK×ag)},Pairs (fH w) es kvs->f∈kvs->∃e∈es,fG f.1 e.key=aq:=by
 intro es kvs hp
 induction hp with
 |nil=>intro d;exact sr d|cons a b c i=>
  intro d;rcases aG.mp d with rfl|d
  ·exact⟨_,ax,a⟩
  ·obtain⟨e,he,q⟩:=i d
   exact⟨e,aK _ he,q⟩
set_option backward.match.sparseCases false in
theorem G0(d:su (.cons (.cons k v) r)=aq):keyOk k=aq/\qi r k=ai/\su r=aq:=by
 have d:(match keyOk k,qi r k with|true,ai=>su r|_,_=>ai)=aq:=d
 rcases c:keyOk k<;>rcases e:qi r k<;>rw[c,e]at d
 ·exact fT d
 ·exact fT d
 ·exact⟨rfl,rfl,d⟩
 ·exact fT d
theorem X4(d:Ab X w ρ h l es):su l=aq->∃kvs:ab (MK×ag),Pairs (fH w) es kvs/\(kvs.map (·.1)).Nodup/\kvs.length=il l/\
  (∀(i:ae)k x,kvs[i]? =aa (k,x)->∃y,z' (w8 l) i=aa y/\qm y=aa k/\keyOk y=aq):=by
 induction d with
 |nil=>exactλι=>⟨[],.nil,B',rfl,λι ι ι q=>b6 q⟩|@cons k v r e q a b p C=>
  intro D;refine ck λF=>?_;obtain⟨m,z⟩:=yz a;obtain⟨g,H,I⟩:=G0 D;obtain⟨kvs,hp,J,L,M⟩:=C I;refine F ?_;refine⟨(m,e.val)::kvs,.cons z.is rfl hp,?_,aY ar L,λi k' x j=>?_⟩
  ·rw[dR,gV]
   refine⟨λN=>?_,J⟩;obtain⟨P,c,e1⟩:=bF.mp N;obtain⟨O,f,o⟩:=KH hp c;have:=DG.mp (A6 p z.key g H) O f;rw[e1]at o;exact tF (o.symm.trans this)
  ·induction i with
   |zero=>obtain⟨rfl,rfl⟩:=av (af j);exact⟨k,rfl,z.key,g⟩|succ i=>exact M i k' x j
theorem dictAt(o:h.get? a=aa (mz es ep))(r:Ab X w ρ h l es)(d:su l=aq):
  ∃kvs:ab (MK×ag),h.DictAt (fH w) a kvs ep/\kvs.length=il l/\(∀(i:ae)k x,kvs[i]? =aa (k,x)->∃y,z' (w8 l) i=aa y/\qm y=aa k/\keyOk y=aq):=by
 refine ck λc=>?_;obtain⟨kvs,hp,f,g,j⟩:=X4 r d;refine c ?_;exact⟨kvs,⟨_,es.toArray,o,⟨rfl,rfl,rfl⟩,rfl,λe he=>r.keys e (by simpa using he),by simpa using hp,f⟩,g,j⟩
abbrev pZ(c:ab Int):V:=cu (c.map V.int)
theorem yJ:∀{d:ab Int}{r:V},Kl x (pZ d)=aa r->∃c:ab Int,r=pZ c/\c.Perm (x::d)/\(d.Pairwise (· <=·)->c.Pairwise (· <=·))
 |[],r,h=>by
  have h:aa (V.cons (.int x) .nil)=aa r:=h;obtain rfl:=af h;exact⟨[x],rfl,.refl _,λι=>qd _ _⟩
 |n::d,r,h=>by
  have h:(match V6 x n with|true=>aa (V.cons (.int x) (.cons (.int n) (pZ d)))|false=>(match Kl x (pZ d) with|some r=>aa (.cons (.int n) r)|none=>aw))=aa r:=h
  rw[rq]at h
  by_cases l:x<n
  ·replace h:=cc l▸h
   injection h with h;subst h
   refine⟨x::n::d,rfl,.refl _,λhp=>vu.mpr ⟨λy e=>?_,hp⟩⟩;rcases aG.mp e with rfl|e
   ·exact Int.le_of_lt l
   ·exact xO (Int.le_of_lt l) ((vu.mp hp).1 y e)
  ·replace h:=bw l▸h
   induction f:Kl x (pZ d) with
   |none=>exact b6 (f▸h)|some q=>
    replace h:=f▸h
    injection h with h;subst h
    clear h;obtain⟨c,rfl,p,g⟩:=yJ f;refine⟨n::c,rfl,(p.cons n).trans (.swap _ _ _),λhp=>?_⟩;rw[vu]at hp⊢;refine⟨λy e=>?_,g hp.2⟩;rcases aG.mp (p.mem_iff.mp e) with rfl|e
    ·exact Q6.mp l
    ·exact hp.1 y e
theorem Ey:∀{l r:V},A2 l=aa r->∃d c:ab Int,l=pZ d/\r=pZ c/\c.Perm d/\c.Pairwise (· <=·):=by
 intro l
 induction l with
 |nil=>intro r h;obtain rfl:=af h;exact⟨[],[],rfl,rfl,.refl _,.nil⟩|cons a t b i=>
  intro r h
  induction a using V.casesOn with
  |int x=>
   have h:(match A2 t with|some r=>Kl x r|none=>aw)=aa r:=h
   induction e:A2 t with
   |none=>exact b6 (e▸h)|some q=>
    simp only[e]at h;refine ck λf=>?_;obtain⟨d,c,rfl,rfl,p,g⟩:=i e;obtain⟨ms,rfl,j,m⟩:=yJ h;refine f ?_;exact⟨x::d,ms,rfl,rfl,j.trans (p.cons x),m g⟩
  |_=>exact b6 h
 |_=>intro r h;exact b6 h
theorem ie:∀(l:ab V)(i:ae),z' (cu l) i=l[i]?
 |[],a=>rfl|_::_,0=>rfl|_::t,i+1=>ie t i
theorem ints_rep:∀{vs:ab ag}{c:ab Int},IntsAre vs c->gi X ρ h (pZ c) vs:=by
 intro vs c d
 induction d with
 |nil=>exact⟨trivial,rfl⟩|cons n t a i=>exact⟨i.1,_,_,rfl,⟨t,rfl⟩,i.2⟩
theorem ints_of:∀{vs:ab ag}{c:ab Int},vs.length=c.length->(∀(j:ae)(v:ag),vs[j]? =aa v->∃(n:Int)(t:Tok),c[j]? =aa n/\v=ag.int n t)->IntsAre vs c
 |[],[],a,b=>.nil|[],_::_,l,_=>nomatch l|_::_,[],l,_=>nomatch l|v::vs,n::c,l,hf=>by
  obtain⟨m,t,e,rfl⟩:=hf 0 v rfl;obtain rfl:=af e;exact .cons _ _ (ints_of (o8 l) λj u d=>hf (j+1) u d)
theorem yK(d:Ab X w ρ h l es):il (w8 l)=il l:=by
 induction d with
 |nil=>rfl|cons a b c i=>exact aY ar i
theorem tA:∀l:ab V,il (cu l)=l.length
 |[]=>rfl|_::t=>aY ar (tA t)
theorem Ez{Q:ag->ah->Prop}(O:A.handled=aw)(lo:(d==IC)=ai)(P:s.heap.get? d=aa (mz es ep))(I:Ab X w ρ s.heap l es)(R:su l=aq)(hz:il l<=60)(S:A2 (w8 l)=aa r)(h:∀vs,gi X ρ s.heap r vs->∀(a:aB)(c:ae)(h' :bJ)(tk:ae),s.heap.get? a=aw->(∀b o,s.heap.get? b=aa o->h'.get? b=aa o)->h'.get? a=aa {cls:=.type "list",data:=.seq vs.toArray c}->Q (.ref a) {s with heap:=h',toks:=tk}):
  bO (Md w) A (call (.builtin "sorted") [.ref d]) Q E s:=by
 refine ck λg=>?_;obtain⟨kvs,C,T,U⟩:=dictAt P I R;obtain⟨q,D,e1,rfl,hp,W⟩:=Ey S;have lk:q.length=kvs.length:=by simp only[T,<-yK I,e1,pZ,tA,b9]
 refine g ?_;refine call_function_entry kind_sorted plain_sorted entry_sorted (args_sorted1 _) ?_;refine ak (m:=checkCount "sorted" 1 1 _) (aH ?_);refine ak (kdu_collect (A:=A.in1) (kdl_dict (knd:=fH w) (kvs:=kvs) (ep:=ep) lo) O C (by rw[bD];lia) λz tk acc J f=>?_)
 have i:acc.toList.length=q.length:=by simp only[mP,f.1,lk]
 have Y:IntsAre acc.toList q:=ints_of i λj v M=>by
  refine ck λg=>?_;obtain⟨k,x,Z,F⟩:=f.2 j v (by exact(lr)▸M)
  obtain⟨y,p,ky,_⟩:=U j k x Z;simp only[e1,pZ,ie,cL]at p;refine g ?_
  induction N:q[j]? with
  |none=>rw[N]at p;exact b6 p|some n=>
   rw[N]at p;obtain rfl:=af p;obtain rfl:=af ky;clear M;obtain⟨t,rfl⟩:=eh F;exact⟨n,t,rfl,rfl⟩
 refine ak (Mq ?_ (by simp only[bD,i];lia))
 have L:(z.push (fj "list" acc.toList.toArray 0)).get? z.objs.size=aa (fj "list" acc.toList.toArray 0):=bA _ rfl;refine ak (dk (eS (s:={s with heap:=z.push (fj "list" acc.toList.toArray 0),toks:=tk}) IG ⟨_,L,rfl⟩ entry_list_sort (list_sort_tree L Y (by lia) λout ms a1 a2 a3=>⟨_,rfl,?_⟩) (args_list_sort _)))
 refine aH ⟨_,rfl,?_⟩;refine ck λg=>?_;obtain⟨e,he⟩:=sortedHeap_at (out:=out) L;have em:ms=D:=lks_uniq (a2.trans hp.symm) a3 W
 cases em
 refine g ?_;refine h out.toList (ints_rep a1) z.objs.size e _ _ ?_ (λb o x=>?_) he
 ·exact gI (λb o x=>⟨o,J b o x⟩) (cO (aF _))
 ·have x1:=J b o x
  have H:=eG x1;rw[sortedHeap_old (df H) (by rw[pV];exact k_ H),Rh _ _ _ (df H)]
  exact x1
theorem one(r:Rep X ρ h (cu [a]) .none us):∃u,us=[u]/\iU X ρ h a u:=by
 refine ck λd=>?_;obtain⟨u,c,rfl,e,rt⟩:=r;have:c=[]:=rt;clear rt;subst this;refine d ?_;exact⟨u,rfl,e⟩
theorem two(r:Rep X ρ h (cu [a,b]) .none us):∃u1 u2,us=[u1,u2]/\iU X ρ h a u1/\iU X ρ h b u2:=by
 refine ck λc=>?_;obtain⟨u,d,rfl,e,rt⟩:=r;obtain⟨u2,rfl,f⟩:=one (a:=b) rt;refine c ?_;exact⟨u,u2,rfl,e,f⟩
end
variable{G:Gm}{n:ae}{k:Kf}{σ:St}{a b v:V}{u u1 u2:ag}{t:Sem ag}
theorem S0(r:RV G k a u):aN G 8 k σ (Nf 0 a) (RV G) (call (.builtin "len") [u]):=
 aN.alt (aN.mn (T:=λu=>call (.builtin "len") [u]) r λl x us D=>aN.eB λf=>aN.leaf λA Q E ι q=>by
  have e:=hA D.rep;rw[<-e]at q;have f:=ble f;exact PyProof.Rows.len_tuple D.tup (by rw[a7];lia) (q _ _ ⟨_,rfl⟩))
 (aN.alt (aN.fB (T:=λu=>call (.builtin "len") [u]) r λl t=>aN.eB λf=>aN.leaf λA Q E ι q=>by
  have f:=ble f;rw[fU]at q f;rw[<-eR G.X]at q f;exact len_bytes (by lia) (q _ _ ⟨_,rfl⟩))
 (aN.alt (aN.cb (T:=λu=>call (.builtin "len") [u]) r λι l p vs c L=>aN.leaf λA Q E ι q=>by
  replace q:=hA L.rep▸q
  have:=L.len;exact PyProof.Rows.len_list (du L.obj) (by rw[a7];lia) (q _ _ ⟨_,rfl⟩))
 (aN.n5 (T:=λu=>call (.builtin "len") [u]) r λι l p B=>aN.leaf λA Q E ι q=>by
  rw[fU,<-eR G.X]at q;have:=B.len;exact XY B.obj (by rw[eR];lia) (q _ _ ⟨_,rfl⟩))))
theorem KI(M:An G.X)(r:RV G k a u):∀j,aN G 8 k σ (Nf j a) (RV G) (call (mr j) [u])
 |0=>S0 r|1=>aN.alt (aN.fB (T:=λu=>call (.type "bytes") [u]) r λl t=>aN.leaf λA Q E ι q=>vQ (q _ k.tk ⟨t,rfl⟩))
  (aN.alt (aN.n5 (T:=λu=>call (.type "bytes") [u]) r λι l p B=>aN.leaf λA Q E ι q=>Ar B.obj (by simp only[bD,eR];have:=B.len;lia) (q _ _ ⟨_,rfl⟩))
  (aN.cb (T:=λu=>call (.type "bytes") [u]) r λι l p vs c L=>aN.opt λb hb=>aN.grown λA Q E R q S=>by
   refine ck λd=>?_;obtain⟨I,i1,i2,i3⟩:=uE hb L.rep.rep;have:=L.len;refine d ?_;refine call_bytes_ints (du L.obj) i1 i2 (by rw[bD];lia) R.handled λh' t k d=>?_
   exact q _ _ _ d ⟨t,by rw[show Rg I=(fm G.X b).toArray from pT.mp i3]⟩))
 |2=>aN.fB (T:=λu=>call (.type "bytearray") [u]) r λl t=>aN.Wf λJ A Q E R S q=>
   Jj (s:=sh G.b k) (by simp only[bD,eR];lia) λh' N d=>q (sz k) h' k.tk (cO (aF _)) d N
 |3=>aN.cb (T:=λu=>call (.builtin "max") [u]) r λι l p vs c L=>aN.opt λx m=>aN.grown λA Q E R q S=>by
   induction l using V.casesOn with
   |cons z t=>
    induction z using V.casesOn with
    |int y=>
     induction t using V.casesOn with
     |nil=>
      refine ck λd=>?_
      cases m
      obtain⟨u,rfl,t,rfl⟩:=one (a:=.int x) L.rep.rep;refine d ?_;refine max_intList (xs:= #[(x,t)]) R.handled (by simpa[intItems] using du (vs:=[.int x t]) L.obj) (ae.zero_lt_one) λv h' tk H d=>?_
      have:v=.int x t:=by simpa[argBest,intItems] using H.symm
      clear H;subst this;exact q _ _ _ d ⟨t,rfl⟩
     |_=>exact b6 m
    |_=>exact b6 m
   |_=>exact b6 m
 |4=>aN.ei (T:=λu=>call (.builtin "abs") [u]) r λx t=>aN.leaf λA Q E ι q=>call_abs_int λu tk=>by
   exact(aU (show ¬(cR x<0) fromλq=>er q (Q6.mpr (c9 x))))▸q _ tk ⟨u,rfl⟩
 |5=>aN.cb (T:=λu=>call (.type "list") [u]) r λι l p vs c L=>aN.aaM L.rep λJ A Q E R S q=>aT
   (call_list_seq p.1 (.inl rfl) L.obj rfl rfl (λh' O d C=>q _ h' k.tk O (cO (aF _)) d C) (by simp only[bD,a7];lia))
 |6=>aN.cb (T:=λu=>call (.type "tuple") [u]) r λι l p vs c L=>aN.eB λf=>aN.grown λA Q E R q S=>by
   have:=L.len;refine call_tuple_list (du L.obj) (λh' d=>?_) (by simp only[bD,a7];lia)
   have i:∀b o,k.h.get? b=aa o->(h'.push {cls:=.type "tuple",data:=.seq vs.toArray}).get? b=aa o:=λb o e=>dt b o (d b o e);have cP:k.h.get? h'.objs.size=aw:=gI (λb o x=>⟨o,d b o x⟩) (cO (aF _));exact q _ _ k.tk i ⟨_,vs,rfl,⟨_,bA _ rfl,rfl,_,rfl⟩,(S.cP cP).1,L.rep.lst,L.rep.rep.mono (bY.old (xs:=[]) i) NT.nil⟩
 |7=>aN.fu (T:=λu=>call (.builtin "sorted") [u]) r λι l ep p es D=>aN.eB λP=>aN.opt λr' U=>aN.eB λf=>aN.XZ λA Q E R S q=>by
   obtain⟨W,Y⟩:=fS P;exact aT (Ez R.handled (pq S M D.sC) D.obj (w:=G.w) D.rep Y (ble W) U λvs F a c h' tk cP d C=>q a h' tk _ cP d C (by simp) λZ g=>⟨rfl,vs,c,by rw[hA (G:=G) (k:=k) F];exact ble f,C,F.lst,F.rep.mono g NT.nil⟩)
 |8=>aN.eC (T:=λu=>call (.type "int") [u]) r λx t=>aN.leaf λA Q E ι q=>call_int_int (q _ k.tk ⟨t,rfl⟩)|n+9=>aN.bW
end
section
open PySem.SeqAt
def Z8(X:Ctx)(h:bJ):Prop:=∀b o,X.h0.get? b=aa o->h.get? b=aa o
def Keeps(G:Gm)(f:ag):Prop:=∀h,Z8 G.X h->∃k,(k=W8\/k=RW\/k=Mn)/\Iv (Md G.w) h (Iw f) k
theorem Wg(id:cZ):Keeps G (.builtin id):=λh ι=>⟨.machine,.inr (.inl rfl),λA Q E s ι q=>aH q⟩
def CW(G:Gm)(n:ae)(k:Kf)(σ:St)(as:Rm (ab V))(T:ag->ab ag->Sem ag):Prop:=
 ∀f first(c:ab V->Rm V),Keeps G f->(∀vs d us k₁,Le k k₁->pj G k₁ vs us->aN G n k₁ d (c vs) (RV G) (call f (first++us)))->aN G n k σ (b8 as c) (RV G) (T f first)
variable{G:Gm}{n:ae}{k:Kf}{σ:St}{a b v o:V}{u u1 u2:ag}{t:Sem ag}
section
variable{α β:Type}{rep:Kf->α->β->Prop}{tt:Sem β}{as:ab V}{us:ab ag}
theorem aN.DZ(r:pj G k as us)(h:us=[]->aN G n k σ c rep tt):aN G n k σ (M.Internal.DZ as c) rep tt:=match as,r with
 |[],r=>h r.rep|_::_,_=>aN.bW
theorem aN.ow{f:V->Rm α}(r:pj G k as us)(h:∀a u,us=[u]->RV G k a u->aN G n k σ (f a) rep tt):aN G n k σ (M.Internal.ow as f) rep tt:=match as,r with
 |[],b=>aN.bW|[a],r=>have ⟨u,e,d⟩:=one r.rep;h a u e d|_::_::_,_=>aN.bW
theorem aN.ue{f:V->V->Rm α}(r:pj G k as us)(h:∀a b u1 u2,us=[u1,u2]->RV G k a u1->RV G k b u2->aN G n k σ (f a b) rep tt):aN G n k σ (M.Internal.ue as f) rep tt:=match as,r with
 |[],c=>aN.bW|[c],i=>aN.bW|[a,b],r=>have ⟨u1,u2,e,d,g⟩:=two r.rep;h a b u1 u2 e d g|_::_::_::_,_=>aN.bW
end
theorem aN.X5{j:ae}{o o' :MO}{x:V}{p:aB×aB}(g:σ.t.get j=aa o)(hp:k.ρ[j]? =aa p)(e2:p.2=p.1)(h:∀A Q E,el A n->SR G k σ->(∀u h' tk y,(∀b x,b≠p.1->k.h.get? b=aa x->h'.get? b=aa x)->h'.get? p.1=aa y->(bY k.ρ k.h k.ρ h' []->ia G.X G.w.params k.ρ h' p o')->(bY k.ρ k.h k.ρ h' []->iU G.X k.ρ h' x u)->Q u {sh G.b k with heap:=h',toks:=tk})->bk (Md G.w) A t Q E (sh G.b k)):aN G n k σ (b8 (M.Internal.put j o') λι=>rt x) (RV G) t:=λv τ e S A Q E R q=>by
 cases j with
 |zero=>exact b6 e|succ j=>
 refine ck λd=>?_;obtain⟨rfl,rfl⟩:=av (af e);refine d ?_;exact h A Q E R S λu h' tk y d f r i=>by
  obtain⟨m,l⟩:=h5.put S (o' :=o') (k9 j) g hp (λb x z ι e=>d b x z e) ⟨y,f⟩ ⟨y,e2▸f⟩ r;exact q u ⟨_,h',tk⟩ l m (i l)
theorem aN.putL(f:Array ag->Array ag)(L:LstAt G k σ j l p vs c)(m:f vs.toArray=us.toArray)(r:RL G k i us)(y:RV G k x u)(h:us.length<=4096->∀A Q E,el A n->(∀tk,Q u {sh G.b k with heap:=k.h.update p.1 (cp f),toks:=tk})->bO (Md G.w) A t Q E (sh G.b k)):aN G n k σ (M.Internal.putL j i x) (RV G) t:=
 aN.eB λhf=>aN.X5 L.get L.sC L.two λA Q E R S q=>by
  have hz:us.length<=4096:=by exact(hA r)▸ble hf
  have d:=t8 (c:="list") (a:=p.1) (h:=k.h) L.obj f
  replace d:=m▸d
  exact aT (h hz A Q E R λtk=>q u _ tk _ (λb x z e=>((eM ..).2 b z).trans e) d (λg=>⟨L.two,us,_,hz,d,r.lst,r.rep.mono g NT.nil⟩) λg=>y.mono g NT.nil)
theorem KJ:∀{l:V}{vs:ab ag},gi X ρ h l vs->Ni l=aa x->∃us u,vs=us++[u]/\gi X ρ h (Nh l) us/\iU X ρ h x u:=by
 intro l
 induction l with
 |cons a t c i=>
  intro vs r e;obtain⟨u,us,rfl,f,rt⟩:=r.rep
  induction t using V.casesOn with
  |nil=>
   obtain rfl:=af e;have:us=[]:=rt;subst this;exact⟨[],u,rfl,⟨trivial,rfl⟩,f⟩
  |cons b t=>
   obtain⟨d,j,rfl,g,m⟩:=i ⟨r.lst,rt⟩ e;exact⟨u::d,j,rfl,⟨g.lst,u,d,rfl,f,g.rep⟩,m⟩
  |_=>exact nomatch r.lst
 |_=>intro vs r e;exact b6 e
theorem G1(ws:ab ag)(u:ag):(ws++[u]).toArray.eraseIdxIfInBounds ((ws++[u]).toArray.size - 1)=ws.toArray:=by
 simp[oY];rw[ab.eraseIdx_append_of_length_le (aF _)];simp
section
variable{w:bU}{A:aW}{s:ah}{E:ag->ah->Prop}
theorem CL{Q:ag->ah->Prop}(g:s.heap.get? l=aa {cls:=.type "list",data:=.seq #[y] c})(he:EqAt A.in1 s y x aq)(h:Q .none {s with heap:=s.heap.update l (cp λxs=>xs.eraseIdxIfInBounds 0)}):bO (Md w) A (call (.builtin "list.remove") [.ref l,x]) Q E s:=by
 refine IH (wY xR.plain F.entry_list_remove (xR.check _ _ _ _ _ _ _ _ (show s.TypeIs (.ref l) "list" from⟨_,g,rfl⟩) (F.args_list_remove_2 _ _) ?_))
 have main:bO (Md w) A.in1 (Builtin.«list.remove.loop» ⟨[.ref l,x,pS 0],[]⟩) (λfin d=>match fin with|.done f=>wants Q E (.ok f) d|.again i=>i.quiet=aq/\codeAny (Md w) A i (wants Q E) d) (λe d=>wants Q E (.error e) d) s:=by
  refine ak (Ri g rfl ?_);show bO _ _ (eqBool y x>>=_) _ _ s;refine ak (he PW w _ _ ?_);refine jG rfl ?_;refine ak (rg g rfl ?_ (by rw[bD];simp) (by rw[bD];simp[oY]))
  exact aH h
 refine aH ⟨rf yj _,codeAny_builtin MeetsSeq.entry_remove_loop ?_⟩;rw[Gq yj _];exact main
theorem NY{k:MK}{key:ag}(h:fG k key=aq):(keyPart key).isSome=aq:=by
 rcases k
 ·obtain⟨t,rfl⟩:=ee h;rfl
 ·obtain⟨t,rfl⟩:=eh h;rfl
theorem CM{Q:ag->ah->Prop}(e:s.heap.get? d=aa (mz es ep))(hz:es.length<=4096)(h:∀h',h'.get? d=aa (mz [] (ep+1))->dy d s.heap h'->Q .none {s with heap:=h'}):bO (Md w) A (call (.builtin "dict.clear") [.ref d]) Q E s:=by
 have hT:s.TypeIs (.ref d) "dict":=⟨_,e,rfl⟩;refine eS Xb hT F.entry_dict_clear ?_ (F.args_dict_clear_1 _);refine ak ?_;refine ak (mQ hT ?_);refine aH ?_;refine ak (AX e rfl ?_);refine ak ?_;refine ak (m9 e (aH ?_));refine ak (wX (hz:=by simp only[bD,a7];lia) e rfl ?_ (hf:=by simp))
 have fin:=h _ (dw (Obj.mapDictKeys λι=> #[]) e (jE (tZ (rfl:(mz es ep).data=.dict es.toArray ep) _))) (eM ..)
 split
 ·exact ak (wZ (aH ⟨.none,rfl,fin⟩))
 ·exact ak (aH (aH ⟨.none,rfl,fin⟩))
def pA(c:bU)(f:aW)(g:ah)(d:aB)(j:ab aZ)(i:ae)(y:ag)(Q:ag->ah->Prop):Prop:=∀{E:ag->ah->Prop}{ep:ae}{k:MK}{e:aZ}(l:fG k y=aq)(m:g.heap.get? d=aa (mz j ep))(p:∀e∈j,∃k,fG k e.key=aq/\e.hash=mixHash c k)(hz:j.length<=4096)(q:j.findIdx? (λe=>fG k e.key)=aa i)(he:j[i]? =aa e)(h:∀h',h'.get? d=aa (mz (j.eraseIdx i) (ep+1))->dy d g.heap h'->Q e.val {g with heap:=h',toks:=g.toks+1}),bO (Md c) f (call (.builtin "dict.pop") [.ref d,y]) Q E g
def uF:=λx:((_×_)×_×_)×(_×_)×_×_=>pA x.1.1.1 x.1.1.2 x.1.2.1 x.1.2.2 x.2.1.1 x.2.1.2 x.2.2.1 x.2.2.2
def gK:=haveI:=iG;haveI:=eI;haveI:=lx;qy bB uF
namespace uG
def c:=gK.1.1.1
def f:=gK.1.1.2
def g:=gK.1.2.1
def d:=gK.1.2.2
def j:=gK.2.1.1
def i:=gK.2.1.2
def y:=gK.2.2.1
def Q:=gK.2.2.2
theorem ok:pA c f g d j i y Q:=by
 intro E ep k e m p r hz x he h;have hT:g.TypeIs (.ref d) "dict":=⟨_,p,rfl⟩;have l:(fH c).is k y=aq:=m;refine eS F.slot_dict_pop hT F.entry_dict_pop ?_ (F.args_dict_pop_2 _ _);refine ak ?_;refine ak (mQ hT ?_);refine aH ?_;simp only[NY m,AW];refine ak (aH ?_);refine ak ?_;unfold Builtin.Dict.takeOut
 try with_reducible refine dk ?_
 refine ak ((fH c).pyHash l ?_);refine ak (wpAny_dictFind_of (s:={g with toks:=g.toks+1}) l p rfl (λe he=>r e (by simpa using he):KeysOf (fH c) j.toArray) ?_)
 have e0:j.toArray.findIdx? (λe=>(fH c).is k e.key)=j.findIdx? (λe=>fG k e.key):=lT _ _;rw[e0,x];refine ak (AX (s:={g with toks:=g.toks+1}) p rfl ?_)
 refine((by simpa using he:j.toArray[i]? =aa e))▸?_
 obtain⟨q,_⟩:=aV.mp he;have this:j.toArray.eraseIdxIfInBounds i=(j.eraseIdx i).toArray:=by simp[oY,q]
 refine ak (wX (hz:=by simp only[bD,a7];lia) (s:={g with toks:=g.toks+1}) p rfl (aH ?_) (hf:=by rw[this,a7,Kd];simp only[a7];split<;>lia))
 refine ak (wZ (aH ⟨e.val,rfl,h _ ?_ (eM ..)⟩));rw[dw _ p (jE (tZ rfl _))];show aa ({cls:=.type "dict",data:=.dict (j.toArray.eraseIdxIfInBounds i) (ep+1)}:Obj)=_;rw[this]
end uG
theorem EA:pA w A s d es i key Q:=@d5 _ _ uF @uG.ok (((w,A),s,d),(es,i),key,Q)
end
theorem G3(r:RV G k o u)(d:pj G k as us):aN G 8 k σ (IZ o as) (RV G) (call (.builtin "list.append") (u::us)):=
 aN.cb (T:=λu=>call (.builtin "list.append") (u::us)) r λj l p vs c L=>aN.ow d λa u e f=>by
  clear d;subst e;exact aN.putL (us:=vs++[u]) (λxs=>xs.push u) L (by simp) (Jg (c:=.cons a .nil) ⟨trivial,u,[],rfl,f,rfl⟩ L.rep) rfl λhz A Q E R q=>by
   rw[bV]at hz;have hz:vs.length+1<=4096:=hz;refine call_meets VM ⟨_,L.obj,rfl⟩ F.entry_list_append (F.args_list_append_2 _ _) (AutoListH.list_append_list_val_0 p.1 _ c u (by simp only[bD,a7];lia)) ⟨L.obj,q k.tk⟩
theorem G4(r:RV G k o u)(d:pj G k as us):aN G 8 k σ (I1 o as) (RV G) (call (.builtin "list.extend") (u::us)):=
 aN.cb (T:=λu=>call (.builtin "list.extend") (u::us)) r λj l p vs c L=>aN.ow d λa u e g=>by
  clear d;subst e;exact aN.cb (T:=λu=>call (.builtin "list.extend") [.ref p.1,u]) g λx l2 i vs2 m L2=>aN.putL (us:=vs++vs2) (λxs=>xs++vs2.toArray) L (by simp) (Jg L2.rep L.rep) rfl λhz A Q E R q=>by
   have:=L.len;have:=L2.len;have h:vs.toArray.size+vs2.toArray.size<=ec:=by simp only[bD,a7,a7];lia
   refine call_meets VN ⟨_,L.obj,rfl⟩ F.entry_list_extend (F.args_list_extend_2 _ _) (AutoSeq1.list_extend_list_list_0 p.1 _ c i.1 _ m ?_ (ae.le_of_add_right_le h) (II h)) ⟨L.obj,L2.obj,q k.tk⟩;rw[d_];rintro⟨_,f⟩;simp only[Builtin.List.listTooLong,a7]at f;revert f;simp
   omega
set_option backward.match.sparseCases false in
theorem G5(r:RV G k o u)(f:pj G k as us):aN G 8 k σ (I2 o as) (RV G) (call (.builtin "list.remove") (u::us)):=
 aN.cb (T:=λu=>call (.builtin "list.remove") (u::us)) r λj l p vs c L=>aN.ow f λa u e g=>by
  subst e;exact aN.opt λr' h=>by
   induction l using V.casesOn with
   |cons y t=>
    induction t using V.casesOn with
    |nil=>
     have h:(match vEq y a with|some aq=>aa V.nil|_=>aw)=aa r' :=h
     obtain⟨i,rfl,m⟩:=one (a:=y) L.rep.rep
     induction d:vEq y a with
     |none=>exact b6 (d▸h)|some t=>
      induction t with
      |false=>rw[d]at h;exact b6 h|true=>
       rw[d]at h;obtain rfl:=af h;exact aN.putL (us:=[]) (λxs=>xs.eraseIdxIfInBounds 0) L (by simp) ⟨trivial,rfl⟩ rfl λhz A Q E R q=>
        CL L.obj (ur G.X 3 y a aq d A.in1 (sh G.b k) k.ρ i u (by have:=R.units;rw[aW.in1_units];lia) m g).eq (q k.tk)
    |_=>exact b6 h
   |_=>exact b6 h
theorem NZ(r:RV G k o u)(d:pj G k as us):aN G 8 k σ (V_ o as) (RV G) (call (.builtin "list.pop") (u::us)):=
 aN.cb (T:=λu=>call (.builtin "list.pop") (u::us)) r λj l p vs c L=>aN.DZ d λe=>by
  subst e;exact aN.opt λy h=>by
   refine ck λf=>?_;obtain⟨ws,u,rfl,g,i⟩:=KJ L.rep h;have:=L.len;refine f ?_;exact aN.putL (us:=ws) (λxs=>xs.eraseIdxIfInBounds ((ws++[u]).toArray.size - 1)) L (G1 ws u) g i λhz A Q E R q=>
    call_meets F.slot_list_pop ⟨_,L.obj,rfl⟩ F.entry_list_pop (F.args_list_pop_1 _) (MeetsSeq.list_pop_last p.1 _ c u (by simp) (by simp only[bD,a7];lia)) ⟨L.obj,q k.tk⟩
theorem N0(r:RV G k o u)(C:pj G k as us):aN G 8 k σ (V' o as) (RV G) (call (.builtin "dict.pop") (u::us)):=
 aN.fu (T:=λu=>call (.builtin "dict.pop") (u::us)) r λj l ep p es D=>aN.ow C λa u e F=>by
  subst e;exact aN.eB λd=>aN.opt λv H=>by
   refine ck λI=>?_;obtain⟨m,h⟩:=mM d;obtain⟨i,e,y,f,J⟩:=eJ.find_some (w:=G.w) D.rep h d H;refine I ?_;exact aN.X5 D.get D.sC D.two λA Q E R S q=>aT (EA (key_is h F) D.obj (eJ.keys (w:=G.w) D.rep) D.len y f λh' z L=>
    q _ h' _ _ (λb x M e=>(L.2 b M).trans e) z (λg=>⟨D.two,_,by have:=D.len;refine Kd▸?_;split;exact bq (wW _ 1) this;exact this,z,(eJ.del (w:=G.w) D.rep h d y).map (Rep.mono g NT.nil)⟩) λg=>J.mono g NT.nil)
theorem KL(r:RV G k o u)(d:pj G k as us):aN G 8 k σ (Nj o as) (RV G) (call (.builtin "dict.clear") (u::us)):=
 aN.fu (T:=λu=>call (.builtin "dict.clear") (u::us)) r λj l ep p es D=>aN.DZ d λe=>by
  subst e;exact aN.X5 D.get D.sC D.two λA Q E R S q=>aT (CM D.obj D.len λh' h f=>
    q _ h' k.tk _ (λb x i e=>(f.2 b i).trans e) h (λg=>⟨D.two,[],bj _,h,.nil⟩) λg=>rfl)
theorem S9(M:An G.X)(r:RV G k o u)(i:pj G k as us):aN G 8 k σ (aaz o as) (RV G) (call (.builtin "dict.get") (u::us)):=
 aN.fu (T:=λu=>call (.builtin "dict.get") (u::us)) r λj l ep p es D=>aN.ue i λa b u1 u2 e x y=>by
  subst e;exact aN.eB λg=>aN.A7 λS=>aN.leaf λA Q E R q=>by
   obtain⟨m,h⟩:=mM g;have f:=yA (w:=G.w) D.rep h g;refine call_meetsIn F.slot_dict_get ⟨_,D.obj,rfl⟩ F.entry_dict_get (F.args_dict_get_3 _ _ _) (meets_dict_get_default (fH G.w) p.1 (key_is h x) (pq S M D.sC) u2) ⟨_,mapOf D.obj D.rep,?_⟩;show Q ((wU fG es.toArray m).getD u2) _;rcases f with⟨v,u3,hz,d,z⟩|⟨hz,f⟩
   ·exact d▸(hz▸q) _ _ z
   ·replace q:=hz▸q
    exact f▸q _ _ y
section
theorem Jp:∀l:ab ae,Sm l=l.map lo1
 |[]=>rfl|c::r=>by
  show XG c::Sm r=_;simp only[Jp r,dR]
  congr 1
  unfold XG lo1;have e:(cf 65 c&&cf c 90)=decide (65<=c/\c<=90):=by
   rw[iJ,d_,iS];exact⟨λh=>⟨ble h.1,ble h.2⟩,λh=>⟨cz h.1,cz h.2⟩⟩
  rw[e]
  by_cases q:65<=c/\c<=90
  ·rw[cc q,bc q]
  ·rw[bw q,aU q]
theorem EB:∀{l:ab ae},ascii l=aq->∀c∈l,c<128
 |a::r,h,c,d=>by
  have h:(match bH a 128 with|true=>ascii r|false=>ai)=aq:=h
  induction e:bH a 128 with
  |false=>rw[e]at h;exact fT h|true=>
   rw[e]at h;rcases aG.mp d with rfl|d
   ·exact blt e
   ·exact EB h c d
theorem KN(t t2:Tok):Builtin.«str.encode» ⟨[.str ⟨#[48,48]⟩ t,.str ⟨#[97,115,99,105,105]⟩ t2],[]⟩=(do ret (<-mkBytes #[48,48])):=⋯
theorem KO(t t2:Tok):Builtin.«str.encode» ⟨[.str ⟨#[50,52]⟩ t,.str ⟨#[97,115,99,105,105]⟩ t2],[]⟩=(do ret (<-mkBytes #[50,52])):=⋯
end
theorem KP(r:RV G k o u)(d:pj G k as us):aN G 8 k σ (Nk o as) (RV G) (call (.builtin "str.lower") (u::us)):=
 aN.hH (T:=λu=>call (.builtin "str.lower") (u::us)) r λl t=>aN.DZ d λe=>by
  subst e;exact aN.eB λh=>aN.leaf λA Q E R q=>by
   have hf:=ble ((fS h).2);rw[fU]at hf;refine SCL.lower (by simp[wV];lia) λι=>?_
   rw[lower_ascii (by simpa using EB ((fS h).1))]
   exact q _ _ ⟨k.tk,by rw[Jp];simp⟩
theorem G6(r:RV G k o u)(g:pj G k as us):aN G 8 k σ (I3 o as) (RV G) (call (.builtin "str.encode") (u::us)):=
 aN.hH (T:=λu=>call (.builtin "str.encode") (u::us)) r λl t=>aN.ow g λe0 u e re=>by
  clear g;subst e;exact aN.hH (T:=λu=>call (.builtin "str.encode") [.str ⟨l.toArray⟩ t,u]) re λe1 t2=>aN.eB λh=>aN.leaf λA Q E R q=>by
   have f:=(fS h).1;have d:=(fS h).2;rw[sEq_iff]at f;have f:=eH f;subst f;have i:l=[48,48]\/l=[50,52]:=by
    rcases(VO _ _).mp d with d|d
    ·rw[sEq_iff]at d;exact .inl (eH d)
    ·rw[sEq_iff]at d;exact .inr (eH d)
   refine eS Xc (z6 _ _ t) F.entry_str_encode ?_ (F.args_str_encode_2 _ _);clear d;rcases i with rfl|rfl
   ·show bO _ _ (Builtin.«str.encode» ⟨[.str ⟨#[48,48]⟩ t,.str ⟨#[97,115,99,105,105]⟩ t2],[]⟩) _ _ _
    rw[KN];exact ak (yi (aH ⟨_,rfl,q _ _ ⟨_,rfl⟩⟩) (hb:=by rw[bD];decide))
   ·show bO _ _ (Builtin.«str.encode» ⟨[.str ⟨#[50,52]⟩ t,.str ⟨#[97,115,99,105,105]⟩ t2],[]⟩) _ _ _
    rw[KO];exact ak (yi (aH ⟨_,rfl,q _ _ ⟨_,rfl⟩⟩) (hb:=by rw[bD];decide))
section
variable{w:bU}{A:aW}{s:ah}{E:ag->ah->Prop}
theorem uH:Slot "bytes" "join" "bytes.join":=
 .of (owner:="bytes") (n:="join") (by rw[cH,bQ];kernel_rfl) (by decide+kernel) (by decide+kernel) (by decide+kernel)
  (by first|exact .inl (by decide+kernel)|exact .inr (by decide+kernel)) (by rw[f7];kernel_rfl)
theorem As:nE yf "bytes.join"=aa Builtin.«bytes.join»:=iD (⋯)
theorem CN:IA (.builtin "bytes.join")=pure (.type "method_descriptor"):=by show builtinType _=_;rw[builtinType_eq_fast];kernel_rfl
theorem CO(a b:ag):kl "bytes.join" ⟨[a,b],[]⟩:=by
 unfold kl;refine(nr (id:="bytes.join") (n:=['n','i','o','j']) (o:=['s','e','t','y','b']) (⋯) FB.owner_bytes)▸?_;kernel_rfl
theorem Jq{id:cZ}{b:Array cK}{t:Tok}:gO id (.bytes b t) 0=pure (aa (b,aw)):=by
 unfold gO Builtin.Bytes.takeBuffer? fR;rw[KBy.special_eq W_,KBy.own_buffer,W'];kernel_rfl
theorem KQ{β:Type}(f:ae->β->Sem (ForInStep β))(b:β):AY ([:2]:Gr) b f=(f 0 b>>=λr=>match r with
  |.done b=>pure b|.yield b=>f 1 b>>=λr=>match r with
   |.done b=>pure b|.yield b=>pure b):=by
 rw[Gr.forIn_eq_forIn_range'];show AY [0,1] b f=_;rw[jU];rfl
def pB(l:aB)(a_:Array cK)(b_:Array cK)(t_:Tok)(t1:Tok)(t2:Tok)(s_:ah):Prop:=∀{w:bU}{A:aW}{E:ag->ah->Prop}{c:ae}{Q:ag->ah->Prop}(d:s_.heap.get? l=aa {cls:=.type "list",data:=.seq #[.bytes a_ t1,.bytes b_ t2] c})(hz:a_.size+b_.size<=16384)(h:Q (.bytes (a_++b_) s_.toks) {s_ with toks:=s_.toks+1}),bO (Md w) A (call (.builtin "bytes.join") [.bytes #[] t_,.ref l]) Q E s_
namespace yL
def zz:aB×Array cK×Array cK×Tok×Tok×Tok×ah:=haveI:=lx;gB λx=> ¬pB x.1 x.2.1 x.2.2.1 x.2.2.2.1 x.2.2.2.2.1 x.2.2.2.2.2.1 x.2.2.2.2.2.2
def l:aB:=zz.1
def a_:Array cK:=zz.2.1
def b_:Array cK:=zz.2.2.1
def t_:Tok:=zz.2.2.2.1
def t1:Tok:=zz.2.2.2.2.1
def t2:Tok:=zz.2.2.2.2.2.1
def s_:ah:=zz.2.2.2.2.2.2
theorem ok:pB l a_ b_ t_ t1 t2 s_:=by
 intro w A E c Q d hz h;refine eS uH (fy _ _ t_) As ?_ (CO _ _);refine ak (d0 (a:=(.bytes #[] t_,.ref l)) rfl ?_);dsimp only;refine jG (by rfl) ?_
 refine ak ?_;refine ak (AV (⟨_,d,rfl⟩:s_.TypeIs (.ref l) "list") ?_);refine jG (by decide) ?_
 refine aH ?_;refine ak (mi d rfl ?_);dsimp only;refine jG (by rfl) ?_
 show bO _ _ (AY ([:2]:Gr) ((#[]:Array (Array cK)),([]:ab (ag×ao ag))) _>>=_) _ _ _;refine ak ?_;rw[KQ];refine ak ?_;refine ak (mi d rfl ?_);dsimp only;refine gb (by simp) ?_
 refine ak (dk ?_);show bO _ _ (gO _ (.bytes a_ t1) 0) _ _ _;refine tn Jq ?_;refine aH ?_;refine ak (mi d rfl ?_);dsimp only;refine gb (by simp) ?_
 refine aH ?_;dsimp only;refine ak ?_;refine ak (mi d rfl ?_);dsimp only;refine gb (by simp[ag.onHeap]) ?_
 refine ak (dk ?_);show bO _ _ (gO _ (.bytes b_ t2) 0) _ _ _;refine tn Jq ?_;refine aH ?_;refine ak (mi d rfl ?_);dsimp only;refine gb (by simp) ?_
 refine aH ?_;refine aH ?_;refine ak (d0 (a:= #[]) rfl ?_);refine gb (by simp[Builtin.Bytes.tooLong,bD];lia) ?_
 have e:z7 #[] ((#[].push a_).push b_).toList=a_++b_:=by
  simp[z7]
 refine e▸?_;refine ak (show bO _ _ (mkBytes (a_++b_)) _ _ _ from yi ?_ (hb:=by simp only[bD,Array.size_append];lia))
 refine ak (dk (VD ?_));refine ak ?_;show bO _ _ (do letGo [.bytes a_ t1] _;xv _ _) _ _ _
 refine ak (wZ ?_);show bO _ _ (do letGo [.bytes b_ t2] _;xv _ _) _ _ _
 refine ak (wZ ?_);exact aH (aH ⟨_,rfl,h⟩)
end yL
theorem KR{l:aB}{a:Array cK}{b:Array cK}{t:Tok}{t1:Tok}{t2:Tok}{s:ah}:pB l a b t t1 t2 s:=@ub _ (λx=>pB x.1 x.2.1 x.2.2.1 x.2.2.2.1 x.2.2.2.2.1 x.2.2.2.2.2.1 x.2.2.2.2.2.2) (l,a,b,t,t1,t2,s) @yL.ok
end
theorem KS(h:V9 c=aa r):∃a b,c=.cons (.eN a) (.cons (.eN b) .nil)/\r=qH a b:=by
 induction c using V.casesOn with
 |cons x c=>
  induction x using V.casesOn with
  |eN a=>
   induction c using V.casesOn with
   |cons y d=>
    induction y using V.casesOn with
    |eN b=>
     induction d using V.casesOn with
     |nil=>obtain rfl:=af h;exact⟨a,b,rfl,rfl⟩|_=>exact b6 h
    |_=>exact b6 h
   |_=>exact b6 h
  |_=>exact b6 h
 |_=>exact b6 h
theorem N1(r:RV G k o u)(d:pj G k as us):aN G 8 k σ (Wa o as) (RV G) (call (.builtin "bytes.join") (u::us)):=
 aN.fB (T:=λu=>call (.builtin "bytes.join") (u::us)) r λl t=>aN.eB λh=>aN.ow d λa u e f=>by
  clear d;subst e;exact aN.cb (T:=λu=>call (.builtin "bytes.join") [.bytes (fm G.X l).toArray t,u]) f λj l2 p vs c L=>aN.opt λr' g=>aN.eB λhf=>aN.leaf λA Q E R q=>by
   induction l using a6 with
   |cons=>exact fT h|nil=>
    refine ck λi=>?_;obtain⟨m,x,rfl,rfl⟩:=KS g;obtain⟨u1,u2,rfl,⟨t1,rfl⟩,t2,rfl⟩:=two (a:=.eN m) (b:=.eN x) L.rep.rep;have hf:=ble hf;rw[fU,rn,bV]at hf;refine i ?_;refine KR L.obj (by rw[eR,eR];lia) (q _ _ ⟨k.tk,?_⟩)
    rw[mT];simp
section
variable{α β:Type}{c:Rm α}{rep:Kf->α->β->Prop}{tt:Sem β}
theorem aN.N2{f:ab ae->Rm α}(r:RV G k v u)(h:∀l t,u=.str ⟨l.toArray⟩ t->aN G n k σ (f l) rep tt):aN G n k σ (M.Internal.hH v f) rep tt:=by
 induction v using V.casesOn with
 |str l=>obtain⟨t,e⟩:=r;exact h l t e|_=>exact aN.bW
theorem aN.X6{f:ab ae->Rm α}(r:RV G k v u)(h:∀l t,u=.bytes (fm G.X l).toArray t->aN G n k σ (f l) rep tt):aN G n k σ (M.Internal.fB v f) rep tt:=by
 induction v using V.casesOn with
 |eN l=>obtain⟨t,e⟩:=r;exact h l t e|_=>exact aN.bW
theorem aN.G7{f:ae->MO->Rm α}(r:RV G k v u)(h:∀j o p,Jb G k σ j o p->u=.ref p.1->aN G n k σ (f j o) rep tt):aN G n k σ (M.Internal.jh v f) rep tt:=by
 induction v using V.casesOn with
 |a4 j=>
  refine ck λd=>?_;obtain⟨p,hp,e0⟩:=r;refine d ?_;intro a τ e S;have e:@bl MO (λι=>ao (α×St)) aw (λo=>f j o σ) (σ.t.get j)=aa (a,τ):=e
  induction q:σ.t.get j with
  |none=>exact b6 (q▸e)|some o=>
   simp only[q]at e;refine ck λd=>?_;obtain⟨i,g,ro⟩:=S.objs j o q;obtain rfl:=af (hp.symm.trans g);refine d ?_;exact h j o p ⟨q,hp,ro⟩ e0 a τ e S
 |_=>exact aN.bW
theorem aN.x6{f:ae->V->Rm α}(r:RV G k v u)(h:∀j l p vs c,LstAt G k σ j l p vs c->u=.ref p.1->aN G n k σ (f j l) rep tt):aN G n k σ (M.Internal.cb v f) rep tt:=
 aN.G7 r λj o p L e=>match o,L with
  |.list l,⟨a,b,e2,vs,c,z,d,y,r⟩=>h j l p vs c ⟨a,b,e2,z,d,y,r⟩ e|.dict g i,m|.inst q s,t|.jv w,x|.jg A,C=>aN.bW
theorem aN.CP{f:ae->V->ae->Rm α}(r:RV G k v u)(h:∀j l ep p es,ND G k σ j l ep p es->u=.ref p.1->aN G n k σ (f j l ep) rep tt):aN G n k σ (M.Internal.fu v f) rep tt:=
 aN.G7 r λj o p L e=>match o,L with
  |.dict l ep,⟨a,b,e2,es,z,d,r⟩=>h j l ep p es ⟨a,b,e2,z,d,r⟩ e|.list c,g|.inst i m,q|.jv s,t|.jg w,x=>aN.bW
end
def GMt(G:Gm)(k:Kf)(u:ag)(name:Str)(pl:Sem aE)(f:ag):Prop:=∀A E(Q:ag×ab ag->ah->Prop),Q (f,[u]) (sh G.b k)->bO (Md G.w) A (sm u name pl) Q E (sh G.b k)
theorem aN.sJ{as:Rm (ab V)}{T:ag->ab ag->Sem ag}{name:Str}{pl:Sem aE}{id:cZ}{c:ab V->Rm V}{t0:ag->Sem (ag×ab ag)}(h:∀{u A s E}{Q:ag×ab ag->ah->Prop},bk (Md G.w) A (sm u name pl) Q E s->bk (Md G.w) A (t0 u) Q E s)(i:CW G n k σ as T)(g:GMt G k u name pl (.builtin id))(r:RV G k o u)(j:8<=n)(m:∀{k₁ d vs us},RV G k₁ o u->pj G k₁ vs us->aN G 8 k₁ d (c vs) (RV G) (call (.builtin id) (u::us))):aN G n k σ (b8 as c) (RV G) (t0 u>>=λf=>T f.1 f.2):=λa τ e S A Q E R q=>
 aj (h (aT (g A _ _ (i (.builtin id) [u] c (Wg id) (λvs d us k₁ l p=>(m (r.mono l NT.nil) p).less j) a τ e S A Q E R q))))
section
variable{name:Str}{pl:Sem aE}
theorem x7{id:cZ}{p:aB×aB}{j c:ae}{l:V}{vs:ab ag}(L:LstAt G k σ j l p vs c){nm:cZ}(h:name=aL nm)(sl:Slot "list" nm id)(y:IA (.builtin id)=pure (.type "method_descriptor")):GMt G k (.ref p.1) name pl (.builtin id):=λA E Q q=>by
 subst h;exact mj (name:=nm) (show(sh G.b k).TypeIs (.ref p.1) "list" from⟨_,L.obj,rfl⟩) F.plainAttrs_list sl y (λa e=>by injection e with e;subst e;exact⟨_,L.obj,rfl⟩) q
theorem CQ{id:cZ}{p:aB×aB}{j ep:ae}{l:V}{es:ab aZ}(D:ND G k σ j l ep p es){nm:cZ}(h:name=aL nm)(sl:Slot "dict" nm id)(y:IA (.builtin id)=pure (.type "method_descriptor")):GMt G k (.ref p.1) name pl (.builtin id):=λA E Q q=>by
 subst h;exact mj (name:=nm) (show(sh G.b k).TypeIs (.ref p.1) "dict" from⟨_,D.obj,rfl⟩) F.plainAttrs_dict sl y (λa e=>by injection e with e;subst e;exact⟨_,D.obj,rfl⟩) q
def tB(d:Gm)(f:ae)(g:Kf)(i:St)(z:V)(x:ae)(B:Rm (ab V))(T:ag->ab ag->Sem ag):Prop:=∀{u:ag}{name:Str}{pl:Sem aE}(M:An d.X){t0:ag->Sem (ag×ab ag)}(h:∀{u A s E}{Q:ag×ab ag->ah->Prop},bk (Md d.w) A (sm u name pl) Q E s->bk (Md d.w) A (t0 u) Q E s)(j:fA name=aa x)(l:CW d f g i B T)(m:8<=f)(r:RV d g z u),aN d f g i (Wb x z B) (RV d) (t0 u>>=λe=>T e.1 e.2)
def yM:=λx:((_×_)×_×_)×(_×_)×_×_=>tB x.1.1.1 x.1.1.2 x.1.2.1 x.1.2.2 x.2.1.1 x.2.1.2 x.2.2.1 x.2.2.2
def iO:=haveI:=Am;haveI:=Cv;haveI:=Gw;haveI:=neV;qy bB yM
namespace yN
def d:=iO.1.1.1
def f:=iO.1.1.2
def g:=iO.1.2.1
def i:=iO.1.2.2
def z:=iO.2.1.1
def x:=iO.2.1.2
def B:=iO.2.2.1
def T:=iO.2.2.2
theorem ok:tB d f g i z x B T:=by
 intro u name pl M t0 H N I J r;have nm:∀{m:ae}{y:Str},au x m=aq->fA y=aa m->name=y:=λe h=>mV (N.trans (aY aa (ay e))) h;exact aN.cS (λe=>aN.x6 r λj l p vs c L C=>by subst C;exact aN.sJ H I (x7 L (nm e (by decide+kernel)) VM F.type_list_append) r J G3) λι=>
  aN.cS (λe=>aN.x6 r λj l p vs c L C=>by subst C;exact aN.sJ H I (x7 L (nm e (by decide+kernel)) VN F.type_list_extend) r J G4) λι=>
  aN.cS (λe=>aN.x6 r λj l p vs c L C=>by subst C;exact aN.sJ H I (x7 L (nm e (by decide+kernel)) xR F.type_list_remove) r J G5) λι=>
  aN.cS (λe=>aN.alt (aN.x6 r λj l p vs c L C=>by subst C;exact aN.sJ H I (x7 L (nm e (by decide+kernel)) F.slot_list_pop F.type_list_pop) r J NZ)
   (aN.CP r λj l ep p es D C=>by subst C;exact aN.sJ H I (CQ D (nm e (by decide+kernel)) F.slot_dict_pop F.type_dict_pop) r J N0)) λι=>
  aN.cS (λe=>aN.CP r λj l ep p es D C=>by subst C;exact aN.sJ H I (CQ D (nm e (by decide+kernel)) Xb F.type_dict_clear) r J KL) λι=>
  aN.cS (λe=>aN.CP r λj l ep p es D C=>by subst C;exact aN.sJ H I (CQ D (nm e (by decide+kernel)) F.slot_dict_get F.type_dict_get) r J (S9 M)) λι=>
  aN.cS (λe=>aN.N2 r λl t C=>by subst C;exact aN.sJ H I (λA E Q q=>by
   have e:=nm e (y:=aL "lower") (by decide+kernel)
   subst e;exact mj (name:="lower") (z6 _ _ t) F.plainAttrs_str F.slot_str_lower F.type_str_lower (λa e=>by cases e) q) r J KP) λι=>
  aN.cS (λe=>aN.N2 r λl t C=>by subst C;exact aN.sJ H I (λA E Q q=>by
   have e:=nm e (y:=aL "encode") (by decide+kernel)
   subst e;exact mj (name:="encode") (z6 _ _ t) F.plainAttrs_str Xc F.type_str_encode (λa e=>by cases e) q) r J G6) λι=>
  aN.cS (λe=>aN.X6 r λl t C=>by subst C;exact aN.sJ H I (λA E Q q=>by
   have e:=nm e (y:=aL "join") (by decide+kernel)
   clear nm;subst e;exact mj (name:="join") (fy _ _ t) FB.plainAttrs_bytes uH CN (λa e=>by cases e) q) r J N1) λι=>aN.bW
end yN
theorem KU:tB G n k σ o x as T:=@d5 _ _ yM @yN.ok (((G,n),k,σ),(o,x),as,T)
end
end
inductive aaN(X:Ctx)(ρ:fO)(h:bJ)(env:Env)(x:Str)(v:V):Prop
 |mk (c:aB) (u:ag) (at_:env.cells.lookup x=aa c) (cell:h.IsCell c (aa u)) (rep:iU X ρ h v u)
inductive ac4(X:Ctx)(ρ:fO)(h:bJ)(env:Env)(re:aX):Prop
 |mk (m:Str->ao ag) (ns:h.Ns env.locals m) (at_:∀x n v,fA x=aa n->c0 re n=aa v->env.kindOf x=aa .local->∃u,m x=aa u/\iU X ρ h v u)
structure qo(X:Ctx)(ρ:fO)(h:bJ)(env:Env)(sc:Sc)(re:aX):Prop where
 kind:env.scope.kind=.function
 glob:env.globals=dh
 blt:env.builtins=fh
 kinds:∀x k,g_ sc x=aa k->env.kindOf x=aa k\/(k=.free/\env.kindOf x=aa .cell)
 ns:ac4 X ρ h env re
 cells:∀p∈env.cells,(∃v,h.IsCell p.2 v)/\¬adr ρ p.2/\X.h0.get? p.2=aw/\p.2≠env.locals
 qR:∀x n v,fA x=aa n->c0 re n=aa v->(env.kindOf x=aa .cell\/env.kindOf x=aa .free)->aaN X ρ h env x v
 off: ¬adr ρ env.locals/\X.h0.get? env.locals=aw
 apart:∀p∈env.cells,∀q∈env.cells,p.2=q.2->p.1=q.1
 has:∀x,env.kindOf x=aa .cell->(env.cells.lookup x).isSome=aq
 norm:wR env=ai
abbrev cB(G:Gm)(k:Kf)(env:Env)(sc:Sc)(re:aX):Prop:=qo G.X k.ρ k.h env sc re
noncomputable def cy(env:Env):ab aB:=env.locals::env.cells.map (·.2)
def EC(h:bJ)(a:aB):Prop:=∃o,h.get? a=aa o/\((∃es ep,o.data=.dict es ep)\/(∃v,o.data=.cell v)\/o.cls=.type "list"\/jl o)
section
variable{X:Ctx}{ρ jk:fO}{h h' :bJ}{env:Env}{sc:Sc}{re:aX}{xs:ab aB}
theorem bY.oB(g:bY ρ h jk h' xs)(n: ¬adr ρ c)(a:c∉xs)(i:h.IsCell c v):h'.IsCell c v:=have ⟨o,b,e⟩:=i;⟨o,g.keep c o b n a,e⟩
theorem bY.G8(g:bY ρ h jk h' xs){m}(n: ¬adr ρ c)(a:c∉xs)(i:h.Ns c m):h'.Ns c m:=i.at' λo e=>g.keep c o e n a
theorem gL:a∉([]:ab aB):=λq=>sr q
theorem qo.mono(R:qo X ρ h env sc re)(g:bY ρ h jk h' []):qo X jk h' env sc re:=by
 refine ck λf=>?_;obtain⟨m,j,q⟩:=R.ns;refine f ?_;refine⟨R.kind,R.glob,R.blt,R.kinds,⟨m,g.G8 R.off.1 gL j,λx n v a b c=>?_⟩,λp e=>?_,λx n v a b c=>?_,⟨(let ⟨_,_,_,o,_⟩:=j;g.off o R.off.1),R.off.2⟩,R.apart,R.has,R.norm⟩
 ·refine ck λf=>?_
  obtain⟨u,s,r⟩:=q x n v a b c;refine f ?_;exact⟨u,s,r.mono g NT.nil⟩
 ·refine ck λf=>?_
  obtain⟨⟨v,i⟩,n,l,ne⟩:=R.cells p e;refine f ?_;exact⟨⟨v,g.oB n gL i⟩,(let ⟨_,o,_⟩:=i;g.off o n),l,ne⟩
 ·refine ck λf=>?_
  obtain⟨c,u,e,i,r⟩:=R.qR x n v a b c;refine f ?_;exact⟨c,u,e,g.oB (R.cells (x,c) (mem_of_lookup e)).2.1 gL i,r.mono g NT.nil⟩
theorem pC(a:h.get? I=aa o)(b:∀vs c,o.data≠.seq vs c):∀us,¬h.IsTuple I us:=I9 a b
theorem qo.aaO(R:qo X ρ h env sc re):∀a∈cy env,Off X ρ h a:=by
 intro a f;rcases aG.mp f with rfl|f
 ·refine ck λg=>?_
  obtain⟨m,⟨o,es,ep,b,e,_⟩,_⟩:=R.ns;refine g ?_;exact⟨R.off.1,R.off.2,pC b (λι ι q=>nomatch e.symm.trans q),eO b λι q=>nomatch e.symm.trans q⟩
 ·obtain⟨p,hp,rfl⟩:=bF.mp f
  refine ck λg=>?_;obtain⟨⟨v,o,b,e⟩,n,l,_⟩:=R.cells p hp;refine g ?_;exact⟨n,l,pC b (λι ι q=>nomatch e.symm.trans q),eO b λι q=>nomatch e.symm.trans q⟩
theorem qo.nt(R:qo X ρ h env sc re):NT h (cy env):=Off.nt R.aaO
theorem qo.sa(R:qo X ρ h env sc re):∀a∈cy env,EC h a:=by
 intro a b;rcases aG.mp b with rfl|b
 ·refine ck λg=>?_
  obtain⟨m,⟨o,es,ep,e,f,_⟩,_⟩:=R.ns;refine g ?_;exact⟨o,e,.inl ⟨es,ep,f⟩⟩
 ·obtain⟨p,hp,rfl⟩:=bF.mp b
  obtain⟨⟨v,o,e,f⟩,_⟩:=R.cells p hp;exact⟨o,e,.inr (.inl ⟨v,f⟩)⟩
end
structure G9(X:Ctx)(g:ae->ao V):Prop where
 at_:∃mg mb,X.h0.Ns dh mg/\X.h0.Ns fh mb/\∀x n v,fA x=aa n->g n=aa v->
  (x==("__debug__":Str))=ai/\((∃u,mg x=aa u/\iU X [] X.h0 v u)\/(mg x=aw/\∃u,mb x=aa u/\iU X [] X.h0 v u))
theorem Rep.base(S:SR G k σ)(r:Rep G.X [] G.X.h0 x v vs):Rep G.X k.ρ k.h x v vs:=
 pd.gen (λι ι q=>by simp at q) (λa us t n=>⟨have ⟨o,b,r⟩:=t;⟨o,S.base a o b,r⟩,λz=>by
  obtain z|⟨p,hp,q⟩:=z
  ·exact n (.inl z)
  obtain⟨o,b,_⟩:=t;have f:=(S.above p hp).1;clear n;rcases q with rfl|rfl
  ·exact b6 (f.1.symm.trans b)
  ·exact b6 (f.2.symm.trans b)⟩) (λι ι e=>e) r
def cU(G:Gm)(n:ae)(xs:ab aB)(k:Kf)(σ:St){α β:Type}(c:Rm α)(rep:Kf->α->β->Prop)(t:Sem β):Prop:=
 ∀a τ,c σ=aa (a,τ)->SR G k σ->∀A Q E,el A n->(∀v k',bY k.ρ k.h k'.ρ k'.h xs->SR G k' τ->rep k' a v->Q v (sh G.b k'))->bk (Md G.w) A t Q E (sh G.b k)
section
variable{G:Gm}{n m:ae}{xs:ab aB}{k:Kf}{σ:St}{α β γ δ:Type}{c d:Rm α}{rep:Kf->α->β->Prop}{t:Sem β}
theorem cU.of(h:aN G n k σ c rep t):cU G n xs k σ c rep t:=λa τ e S A Q E R q=>h a τ e S A Q E R λv k' l=>q v k' l.wk
theorem cU.bW:cU G n xs k σ (bW:Rm α) rep t:=λι ι e=>b6 e
theorem cU.eB(h:b=aq->cU G n xs k σ c rep t):cU G n xs k σ (eB b c) rep t:=by
 cases b with
 |true=>exact h rfl|false=>exact cU.bW
theorem cU.opt{f:γ->Rm α}(h:∀x,o=aa x->cU G n xs k σ (f x) rep t):cU G n xs k σ (opt o f) rep t:=by
 cases o with
 |none=>exact cU.bW|some x=>exact h x rfl
theorem cU.cS(a:b=aq->cU G n xs k σ c rep t)(e:b=ai->cU G n xs k σ d rep t):cU G n xs k σ (cS b c d) rep t:=by
 cases b with
 |true=>exact a rfl|false=>exact e rfl
theorem cU.alt(b:cU G n xs k σ c rep t)(f:cU G n xs k σ d rep t):cU G n xs k σ (alt c d) rep t:=λa τ e=>by
 unfold M.Internal.alt at e
 cases q:c σ with
 |none=>rw[q]at e;exact f a τ e|some p=>rw[q]at e;cases e;exact b a τ q
theorem cU.less(h:cU G n xs k σ c rep t)(l:n<=m):cU G m xs k σ c rep t:=λa τ e S A Q E R q=>h a τ e S A Q E (R.less l) q
theorem cU.bind{f:α->Rm γ}{u:β->Sem δ}(h:cU G n xs k σ c rep t)(hf:∀a b v k₁,bY k.ρ k.h k₁.ρ k₁.h xs->rep k₁ a v->cU G n xs k₁ b (f a) p (u v)):cU G n xs k σ (b8 c f) p (t>>=u):=λx τ e S A Q E R q=>by
 refine ck λo=>?_;obtain⟨a,b,e1,e2⟩:=br e;refine o ?_;exact aj (h a b e1 S A _ E R λv k₁ l g r=>hf a b v k₁ l r x τ e2 g A Q E R λy i j=>q y i (l.trans j))
theorem cU.pure(h:rep k a v):cU G n xs k σ (rt a) rep (Pure.pure v):=cU.of (aN.pure h)
theorem cU.aaJ(h:cU G n xs k σ c rep t):cU G n xs k σ c rep (ij pos>>=λι=>t):=λa τ e S A Q E R q=>aj (a8 (h a τ e S A Q E R q))
theorem cU.wk(h:cU G n [] k σ c rep t):cU G n xs k σ c rep t:=λa τ e S A Q E R q=>h a τ e S A Q E R λv k' l=>q v k' l.wk
theorem cU.sim(h:cU G n [] k σ c rep t):aN G n k σ c rep t:=h
end
section
variable{G:Gm}{n:ae}{k:Kf}{σ:St}{env:Env}{sc:Sc}{re:aX}{v:V}{u:ag}{x:Str}{m:ae}{pos:Pos}
theorem ED{g:ae->ao V}(GO:G9 G.X g)(s:fA x=aa m)(w:g m=aa v)(R:cB G k env sc re)(j:env.kindOf x=aa .globalImplicit):aN G n k σ (rt v) (RV G) (cn (.Name x pos) env):=
 aN.A7 λS a τ e y A Q E ι q=>by
  obtain⟨rfl,rfl⟩:=av (af e);obtain⟨mg,mb,b,f,l⟩:=GO.at_;obtain⟨p,h⟩:=l x m v s w;rcases h with⟨u,i,r⟩|⟨o,u,i,r⟩
  ·exact kz R.kind j (aT<|loadGlobal_global (R.glob▸b.keeps S.base) i (q u k (Le.refl k) S (Rep.base S r))) p
  ·exact kz R.kind j (aT<|loadGlobal_builtin (R.glob▸b.keeps S.base) o (R.blt▸f.keeps S.base) i (q u k (Le.refl k) S (Rep.base S r))) p
theorem G_(f:fA x=aa m)(g:c0 re m=aa v)(R:cB G k env sc re)(b:env.kindOf x=aa .local\/env.kindOf x=aa .cell\/env.kindOf x=aa .free)(l:(x==("__debug__":Str))=ai)(o:(x==("__classdict__":Str))=ai):aN G n k σ (rt v) (RV G) (cn (.Name x pos) env):=λa τ e S A Q E ι q=>by
 refine ck λj=>?_;obtain⟨rfl,rfl⟩:=av (af e);refine j ?_;refine D9 ?_ l;rcases b with b|b|b
 ·refine ck λj=>?_
  obtain⟨m,p,s⟩:=R.ns;obtain⟨u,w,r⟩:=s x _ v f g b;refine j ?_;exact aT<|wpAny_loadName_local R.kind b p w (q u k (Le.refl k) S r)
 ·obtain⟨c,u,e,i,r⟩:=R.qR x _ v f g (.inl b)
  exact aT<|wpAny_loadName_cell R.kind b e i (q u k (Le.refl k) S r)
 ·obtain⟨c,u,e,i,r⟩:=R.qR x _ v f g (.inr b)
  exact aT<|wpAny_loadName_free R.kind b e i (q u k (Le.refl k) S r) o
abbrev RE(G:Gm)(env:Env)(sc:Sc)(k:Kf)(re:aX)(_:jb):Prop:=cB G k env sc re
theorem EE(R:cB G k env sc re)(S:SR G k σ)(f:L∈xs)(sub:∀a∈xs,a∈cy env)(s:dy L k.h h')(l:∃o,h'.get? L=aa o):SR G ⟨k.ρ,h',tk⟩ σ/\bY k.ρ k.h k.ρ h' xs:=by
 have live:∀b o,k.h.get? b=aa o->∃o',h'.get? b=aa o' :=λb o e=>by
  by_cases q:b=L
  ·exact q▸l
  ·exact⟨o,(s.2 b q).trans e⟩
 have keep:∀b o,b∉xs->k.h.get? b=aa o->h'.get? b=aa o:=λb o hb e=>(s.2 b λq=>hb (q▸f)).trans e;exact⟨h5.frame S (λa g=>R.aaO a (sub a g)) live keep,bY.heap live λb o n ι e=>keep b o n e⟩
structure xF(env:Env)(sc:Sc)(xs:ab aB):Prop where
 loc:env.locals∈xs
 X7:(∀y m,ip sc y=aa m->env.kindOf y=aa .local)\/∀p∈env.cells,p.2∈xs
 sub:∀a∈xs,a∈cy env
theorem xF.all:xF env sc (cy env):=⟨ax,.inr λp hp=>aK _ (cE (f:=(·.2)) hp),λι h=>h⟩
def tC(f:Gm)(g:Kf)(l:Env)(s:Sc)(t:aX)(w:V)(z:ag)(B:Str)(C:ae):Prop:=∀{n:ae}{σ:St}{xs:ab aB}(sub:∀a∈xs,a∈cy l)(b:fA B=aa C)(e:(l.kindOf B=aa .local/\l.locals∈xs)\/l.kindOf B=aa .cell/\∀p∈l.cells,p.2∈xs)(R:cB f g l s t)(r:RV f g w z),cU f n xs g σ (rt (jY t C w)) (RE f l s) (storeName l B z)
def yO:=λx:((_×_)×_×_)×(_×_)×_×_×_=>tC x.1.1.1 x.1.1.2 x.1.2.1 x.1.2.2 x.2.1.1 x.2.1.2 x.2.2.1 x.2.2.2.1 x.2.2.2.2
def hR:=haveI:=Am;haveI:=Cv;haveI:=neV;qy bB yO
namespace yP
def f:=hR.1.1.1
def g:=hR.1.1.2
def l:=hR.1.2.1
def s:=hR.1.2.2
def t:=hR.2.1.1
def w:=hR.2.1.2
def z:=hR.2.2.1
def B:=hR.2.2.2.1
def C:=hR.2.2.2.2
theorem ok:tC f g l s t w z B C:=by
 intro n σ xs sub hx L R ru;exactλa τ e S A Q E ι q=>by
  obtain⟨rfl,rfl⟩:=av (af e);have hp:(l.scope.kind==.class ||(l.scope.kind==.module&&l.locals !=l.globals))=ai:=by rw[R.kind];rfl
  have key:∀{y:Str}{j:ae},fA y=aa j->y≠B->¬j=C:=λH e q=>e (mV H (by exact q▸hx))
  have nt:NT g.h xs:=λa ha=>R.nt a (sub a ha);rcases L with⟨L,O⟩|⟨L,O⟩
  ·obtain⟨mm,hn,hm⟩:=R.ns
   refine aT<|wpAny_storeName_local L hn (λh' U M=>?_) hp
   obtain⟨S',W⟩:=EE (tk:=g.tk+1) R S O sub M (let ⟨o,_,_,ho,_⟩:=U;⟨o,ho⟩)
   have mono:∀{B:V}{w:ag}{vs:ab ag},Rep f.X g.ρ g.h B w vs->Rep f.X g.ρ h' B w vs:=λr=>r.mono W nt;refine q () ⟨g.ρ,h',g.tk+1⟩ W S' ⟨R.kind,R.glob,R.blt,R.kinds,⟨_,U,λy j I H D F=>?_⟩,λp hp=>?_,λy j I H D F=>?_,R.off,R.apart,R.has,R.norm⟩
   ·rw[hQ]at D
    by_cases e:y=B
    ·subst e
     obtain rfl:=af (hx.symm.trans H);rw[bc rfl]at D;obtain rfl:=af D;exact⟨z,bc rfl,mono ru⟩
    ·rw[aU (key H e)]at D
     obtain⟨P,T,r'⟩:=hm y j I H D F;exact⟨P,(aU e).trans T,mono r'⟩
   ·refine ck λJ=>?_
    obtain⟨⟨I,i⟩,a,b,c⟩:=R.cells p hp;refine J ?_;exact⟨⟨I,i.sameBut M c⟩,a,b,c⟩
   ·have e:y≠B:=by rintro rfl;rw[L]at F;rcases F with q|q<;>exact nomatch q
    rw[hQ,aU (key H e)]at D;obtain⟨c,P,N,i,r'⟩:=R.qR y j I H D F;exact⟨c,P,N,i.sameBut M (R.cells (y,c) (mem_of_lookup N)).2.2.2,mono r'⟩
  ·obtain⟨c,N⟩:=fq.mp (R.has B L)
   obtain⟨⟨ad6,Y⟩,a,b,d⟩:=R.cells (B,c) (mem_of_lookup N);refine aT<|wpAny_storeName_cell R.kind L N Y λh' i' M=>?_
   refine ck λJ=>?_;obtain⟨S',W⟩:=EE (tk:=g.tk) R S (O _ (mem_of_lookup N)) sub M (let ⟨o,ho,_⟩:=i';⟨o,ho⟩)
   have mono:∀{B:V}{w:ag}{vs:ab ag},Rep f.X g.ρ g.h B w vs->Rep f.X g.ρ h' B w vs:=λr=>r.mono W nt;obtain⟨mm,hn,hm⟩:=R.ns;refine J ?_;refine q () ⟨g.ρ,h',g.tk⟩ W S' ⟨R.kind,R.glob,R.blt,R.kinds,⟨mm,hn.sameBut M (Ne.symm d),λy j I H D F=>?_⟩,λp hp=>?_,λy j I H D F=>?_,R.off,R.apart,R.has,R.norm⟩
   ·have e:y≠B:=by rintro rfl;rw[L]at F;exact nomatch F
    rw[hQ,aU (key H e)]at D;refine ck λJ=>?_;obtain⟨P,T,r'⟩:=hm y j I H D F;refine J ?_;exact⟨P,T,mono r'⟩
   ·refine ck λJ=>?_
    obtain⟨⟨I,i⟩,a',b',Z⟩:=R.cells p hp;refine J ?_
    by_cases e:p.2=c
    ·exact⟨⟨aa z,e▸i'⟩,a',b',Z⟩
    ·exact⟨⟨I,i.sameBut M e⟩,a',b',Z⟩
   ·rw[hQ]at D
    by_cases e:y=B
    ·refine ck λJ=>?_
     subst e;obtain rfl:=af (hx.symm.trans H);rw[bc rfl]at D;injection D with D;subst D
     refine J ?_;exact⟨c,z,N,i',mono ru⟩
    ·rw[aU (key H e)]at D
     refine ck λJ=>?_;obtain⟨Z,P,hc',i,r'⟩:=R.qR y j I H D F;refine J ?_;exact⟨Z,P,hc',i.sameBut M λq=>e (R.apart (y,Z) (mem_of_lookup hc') (B,c) (mem_of_lookup N) q),mono r'⟩
end yP
theorem A9:tC G k env sc re v u x m:=@d5 _ _ yO @yP.ok (((G,k),env,sc),(re,v),u,x,m)
end
section
open PySem.SeqAt
section
variable{X:Ctx}{w:bU}{A:aW}{s:ah}{ρ jk:fO}{h h' :bJ}{σ σ' :St}{v:V}{E:ag->ah->Prop}
section
variable{P:bZ}
theorem h5.lst(S:h5 X P ρ σ h)(hp:ρ[n]? =aa p)(g:σ.t.get n=aa (.list l)):∃vs c,h.get? p.1=aa {cls:=.type "list",data:=.seq vs.toArray c}/\gi X ρ h l vs:=by
 refine ck λe=>?_;obtain⟨f,d,_,vs,c,_,o,y,r⟩:=S.objs n _ g;obtain rfl:=af (hp.symm.trans d);refine e ?_;exact⟨vs,c,o,y,r⟩
theorem h5.We(S:h5 X P ρ σ h)(hp:ρ[n]? =aa p)(g:σ.t.get n=aa (.dict l ep)):∃es,h.get? p.1=aa (mz es ep)/\eJ (Rep X ρ h) P l es:=by
 refine ck λd=>?_;obtain⟨e,c,_,es,_,o,r⟩:=S.objs n _ g;obtain rfl:=af (hp.symm.trans c);refine d ?_;exact⟨es,o,r⟩
theorem Rep.but{xs:ab aB}(k:∀b o,b∉xs->h.get? b=aa o->h'.get? b=aa o)(c:∀a us,a∈xs->¬h.IsTuple a us){x:V}{v:ag}{vs:ab ag}(r:Rep X ρ h x v vs):Rep X ρ h' x v vs:=
 pd.gen (λι ι e=>e) (λa us t n=>⟨have ⟨o,d,y⟩:=t;⟨o,k a o (λq=>c a us q t) d,y⟩,n⟩) (λι ι e=>e) r
theorem pd.but{xs:ab aB}{x:V}{v:ag}{vs:ab ag}(r:pd X (λk v=>v=X.fv k) ρ h x v vs)(k:∀b o,b∉xs->h.get? b=aa o->h'.get? b=aa o)(c:∀a us,a∈xs->¬h.IsTuple a us):Rep X ρ h' x v vs:=Rep.but k c r
theorem h5.over(S:h5 X P ρ σ h)(k:ae): ¬adr ρ (h.objs.size+k)/\X.h0.get? (h.objs.size+k)=aw:=S.cP (cO (bp _ _))
theorem h5.fresh(S:h5 X P ρ σ h): ¬adr ρ h.objs.size/\X.h0.get? h.objs.size=aw:=S.over 0
theorem h5.push(S:h5 X P ρ σ h)(o:Obj):h5 X P ρ σ (h.push o):=S.keeps dt
end
inductive Rc(h:bJ)(I:aB)(T:cZ):Prop
 |mk {o:Obj}{vs:Array ag} (ho:h.get? I=aa o) (hc:o.cls=.type T) (hd:o.data=.fields vs)
noncomputable def X8(T:cZ):aE:=T !="list"&&(T !="code"&&T !="tuple")
section
variable{I:aB}{T:cZ}
theorem Rc.cls(R:Rc h I T)(d:h.get? I=aa o):o.cls=.type T/\∃vs,o.data=.fields vs:=by
 induction R with|mk c e f=>obtain rfl:=af (d.symm.trans c);exact⟨e,_,f⟩
theorem N3(l:X8 T=aq)(c:X8 U=ai):T≠U:=λe=>by rw[e,c]at l;exact fT l
theorem Rc.sa(R:Rc h I T)(l:X8 T=aq): ¬EC h I:=λ⟨o,g,f⟩=>by
 obtain⟨c,vs,d⟩:=R.cls g;rcases f with⟨_,_,e⟩|⟨_,e⟩|e|⟨_,e|e⟩
 ·exact nomatch d.symm.trans e
 ·exact nomatch d.symm.trans e
 ·exact N3 l (by decide) (xw (c.symm.trans e))
 ·exact N3 l (by decide) (xw (c.symm.trans e))
 ·exact nomatch c.symm.trans e
theorem Rc.nt(R:Rc h I T)(l:X8 T=aq)(us:Array ag): ¬h.IsTuple I us:=λ⟨o,d,c,_⟩=>N3 l (by decide) (xw ((R.cls d).1.symm.trans c))
theorem Rc.live(R:Rc h I T):∃o,h.get? I=aa o:=by induction R with|mk c=>exact⟨_,c⟩
end
structure OffI(X:Ctx)(ρ:fO)(h:bJ)(a:aB):Prop where
 adr: ¬adr ρ a
 h0:X.h0.get? a=aw
 live:∃o,h.get? a=aa o
 nt:∀us,¬h.IsTuple a us
 nf: ¬EC h a
theorem Rc.off(R:Rc h I T)(l:X8 T=aq)(n: ¬adr ρ I)(z:X.h0.get? I=aw):OffI X ρ h I:=⟨n,z,R.live,R.nt l,R.sa l⟩
def NK(X:Ctx)(ρ:fO)(wr:ab aB)(CR:ag->fO->bJ->It->Prop)(s:ah)(Q:ao ag->ah->Prop)(r:ao (V×It)):Prop:=
 bl (∀h' tk,(∀b o,b∉wr->s.heap.get? b=aa o->h'.get? b=aa o)->Q aw {s with heap:=h',toks:=tk})
  (λp=>∀u h' tk,(∀b o,b∉wr->s.heap.get? b=aa o->h'.get? b=aa o)->(∀a∈wr,∃o,h'.get? a=aa o)->iU X ρ h' p.1 u->CR u ρ h' p.2->Q (aa u) {s with heap:=h',toks:=tk}) r
structure pD(X:Ctx)(w:bU)(I:aB)(wr:ab aB)(CS:fO->bJ->It->Prop)(CR:ag->fO->bJ->It->Prop):Prop where
 frame:∀{xs ρ h jk h' i},CS ρ h i->bY ρ h jk h' xs->(∀a∈xs,EC h a)->CS jk h' i
 off:∀{ρ h i},CS ρ h i->∀a∈wr,OffI X ρ h a
 next:∀{ρ σ i r}{A:aW}{s:ah}{Q:ao ag->ah->Prop}{E:ag->ah->Prop},CS ρ s.heap i->h5 X w.params ρ σ s.heap->fP σ i=aa r->el A 1->NK X ρ wr CR s Q r->bk (Md w) A (Rj (.ref I)) Q E s
 go:∀{ρ i u v}{t:aQ}{A:aW}{s:ah}{Q:jb->ah->Prop}{E:ag->ah->Prop},CR u ρ s.heap i->iU X ρ s.heap v u->(∀n k,i=.RK n k->∃es k' p,t=.Tuple es k' p)->
  (∀h',(∀b o,b∉wr->s.heap.get? b=aa o->h'.get? b=aa o)->iU X ρ h' v u->CS ρ h' i->Q () {s with heap:=h'})->bk (Md w) A (ot t (.ref I) u) Q E s
 self:∀{ρ i}{A:aW}{s:ah}{Q:ag->ah->Prop}{E:ag->ah->Prop},CS ρ s.heap i->Q (.ref I) s->bO (Md w) A (kY (.ref I)) Q E s
def N4(X:Ctx)(w:bU)(ρ:fO)(s:ah)(i:It)(Q:ag->ah->Prop):Prop:=
 ∀I wr S CR h' tk,pD X w I wr S CR->(∀b o,s.heap.get? b=aa o->h'.get? b=aa o)->S ρ h' i->(∀a∈wr,s.heap.get? a=aw)->Q (.ref I) {s with heap:=h',toks:=tk}
noncomputable def S_:ab cZ:=["enumerate","zip","dict_itemiterator","dict_reverseitemiterator","odict_iterator","itertools.zip_longest","itertools.pairwise"]
theorem N5{Q:jb->ah->Prop}(c:s.heap.get? I=aa o)(d:o.cls=.type T)(e:o.data=.fields vs)(f:S_.contains T=ai)(q:Q () s):
  bO M A (ot t (.ref I) u) Q E s:=by
 have main:∀a:aB,bO M A (do
   let o<-load I
   match o.cls,o.data with
   |.type n,.fields vs=>
    if S_.contains n&&vs[0]? ==aa (pS a) then
     VE "for.unpacks-the-owned-tuple"
     updateField I 0 .none
   |b,g=>pure ():Sem jb) Q E s:=λa=>by
  refine ak (m9 c ?_);rw[d,e];dsimp only;rw[f,aE.false_and,aU bM];exact aH q
 rcases t<;>try exact aH q
 all_goals
  rcases u<;>first|exact main _|exact aH q
structure One(X:Ctx)(I:aB)(P:fO->bJ->It->Prop)(ρ:fO)(h:bJ)(i:It):Prop where
 st:P ρ h i
 adr: ¬adr ρ I
 h0:X.h0.get? I=aw
structure yQ(X:Ctx)(w:bU)(I:aB)(T:cZ)(P:fO->bJ->It->Prop):Prop where
 own:(X8 T&&dU (S_.contains T))=aq
 rc:∀{ρ h i},P ρ h i->Rc h I T
 frame:∀{xs ρ h jk h' i},P ρ h i->bY ρ h jk h' xs->(∀a∈xs,EC h a)->(∀o,h.get? I=aa o->h'.get? I=aa o)->P jk h' i
 next:∀{ρ σ i r}{A:aW}{s:ah}{Q:ao ag->ah->Prop}{E:ag->ah->Prop},P ρ s.heap i->h5 X w.params ρ σ s.heap->fP σ i=aa r->el A 1->NK X ρ [I] (λι=>P) s Q r->bO (Md w) A (Rj (.ref I)) Q E s
 self:∀{ρ i}{A:aW}{s:ah}{Q:ag->ah->Prop}{E:ag->ah->Prop},P ρ s.heap i->Q (.ref I) s->bO (Md w) A (kY (.ref I)) Q E s
theorem One.ok(K:yQ X w I T P):pD X w I [I] (One X I P) (λι=>One X I P) where
 frame:=λ{xs ρ h jk h' i}st g x=>by
  have R:=K.rc st.st;obtain⟨o,c⟩:=R.live;exact⟨K.frame st.st g x λo c=>g.keep I o c st.adr λq=>R.sa (fS K.own).1 (x I q),g.off c st.adr,st.h0⟩
 off:=λst a f=>by
  exact(aJ.mp f)▸(K.rc st.st).off (fS K.own).1 st.adr st.h0
 next:=λ{ρ σ i r A s Q E}st S j l q=>aT (K.next st.st S j l (by
  induction r with
  |none=>exact q|some p=>exactλu h' tk y lv d m=>q u h' tk y lv d ⟨m,st.adr,st.h0⟩))
 go:=λ{ρ i u v t A s Q E}st d ι q=>by
  have o:=(fS K.own).2
  induction K.rc st.st with
  |mk c C D=>exact aT (N5 c C D (by induction z:S_.contains T with|false=>rfl|true=>rw[z]at o;exact fT o) (q s.heap (λι ι ι e=>e) d st))
 self:=λst q=>K.self st.st q
theorem gi.out:∀{l:V}{vs:ab ag}{k:ae},gi X ρ h l vs->z' l k=aw->vs[k]? =aw:=by
 intro l
 induction l with
 |nil=>intro vs k r _;have:vs=[]:=r.rep;subst this;rfl|cons a t b d=>
  intro vs k r c;obtain⟨u,us,rfl,e,rt⟩:=r.rep
  induction k with
  |zero=>exact soN c|succ k=>simpa using d (vs:=us) (k:=k) ⟨r.1,rt⟩ c
 |_=>intro vs k r;cases r.1
theorem One.new{P:fO->bJ->It->Prop}(K:yQ X w s.heap.objs.size T P)(S:h5 X w.params ρ σ s.heap)(hp:P ρ (s.heap.push o) i)(q:N4 X w ρ s i Q):
  Q (.ref s.heap.objs.size) {s with heap:=s.heap.push o,toks:=tk}:=
 q _ [s.heap.objs.size] _ _ _ tk (One.ok K) dt ⟨hp,S.fresh.1,S.fresh.2⟩ λa c=>by exact(aJ.mp c)▸s7 (aF _)
section
variable{I:aB}{T:cZ}{CR:ag->fO->bJ->It->Prop}{Q:ao ag->ah->Prop}{i:It}{u:ag}{tk:ae}
theorem nS(c:bJ.ExtBut I h h'):∀b o,b∉[I]->h.get? b=aa o->h'.get? b=aa o:=λb o d e=>c b o (λq=>d (aJ.mpr q)) e
theorem NK.item(q:NK X ρ [I] CR s Q (aa (v,i)))(d:dy I s.heap h')(R0:Rc s.heap I T)(l:X8 T=aq)(R:Rc h' I T)(r:iU X ρ s.heap v u)(m:CR u ρ h' i):Q (aa u) {s with heap:=h',toks:=tk}:=
 q u h' tk (nS d.extBut) (λa c=>by exact(aJ.mp c)▸R.live) (r.but (nS d.extBut) λa us c=>by exact(aJ.mp c)▸R0.nt l us) m
end
section
variable(I:aB)
inductive Jr(ρ:fO)(h:bJ):It->Prop
 |mk {n k:ae}{p:aB×aB} (hp:ρ[n]? =aa p) (it:h.IsListIter I p.1 k):Jr ρ h (.kx n k)
inductive Ta(X:Ctx)(ρ:fO)(h:bJ):It->Prop
 |mk {l:V}{t:aB}{us:ab ag}{k:ae} (it:h.IsTupleIter I t k) (ht:h.IsTuple t us.toArray) (n: ¬adr ρ t) (rl:gi X ρ h l (us.drop k)):Ta X ρ h (.fix l)
inductive X9(_:fO)(h:bJ):It->Prop
 |mk {b:Array cK}{t:Tok}{k:ae}{l:V} (it:Xd h I b t k) (e:l=pZ ((b.toList.drop k).map λc=>((c.toNat:ae):Int))):X9 _ h (.fix l)
inductive Wh(_:fO)(h:bJ):It->Prop
 |mk {k m:ae} (it:IsRangeIter h I (k:Int) (m:Int) 1):Wh _ h (.fix (td m k))
inductive X_(ρ:fO)(h:bJ):It->Prop
 |mk {n ep k z:ae}{p:aB×aB} (hp:ρ[n]? =aa p) (it:h.IsKeyIter I p.1 k z ep):X_ ρ h (.Z5 n ep k z)
end
theorem Jr.rc(it:h.IsListIter I p k):Rc h I "list_iterator":=it.elim λι z=>⟨z.1,z.2.1,z.2.2⟩
theorem yR{α:Type}{n:ae}{f:V->ao α}{r:α}(h:oLst σ n f=aa r):∃l,σ.t.get n=aa (.list l)/\f l=aa r:=by
 unfold oLst at h;generalize σ.t.get n=o at h
 induction o with
 |none=>exact b6 h|some o=>
  induction o with
  |list l=>exact⟨l,rfl,h⟩|_=>exact b6 h
theorem N6{α:Type}{n:ae}{f:V->ae->ao α}{r:α}(h:oDct σ n f=aa r):∃l ep,σ.t.get n=aa (.dict l ep)/\f l ep=aa r:=by
 unfold oDct at h;generalize σ.t.get n=o at h
 induction o with
 |none=>exact b6 h|some o=>
  induction o with
  |dict l ep=>exact⟨l,ep,rfl,h⟩|_=>exact b6 h
theorem Js(h:cS b o aw=aa r):b=aq/\o=aa r:=by
 induction b with
 |true=>exact⟨rfl,h⟩|false=>exact b6 h
theorem vU(h:A3 o f=aa r):r=o.map f:=by
 induction o with
 |none=>exact(af h).symm|some v=>exact(af h).symm
theorem KV{n k:ae}{r:ao (V×It)}(h:fP σ (.kx n k)=aa r):∃l,σ.t.get n=aa (.list l)/\r=(z' l k).map λv=>(v,.kx n (k+1)):=(yR h).imp λι z=>⟨z.1,vU z.2⟩
theorem KW(h:fP σ (.fix l)=aa r):(l=.nil/\r=aw)\/∃a t,l=.cons a t/\r=aa (a,.fix t):=by
 rcases l<;>cases h
 ·exact .inl ⟨rfl,rfl⟩
 ·exact .inr ⟨_,_,rfl,rfl⟩
theorem vV{l:ab ag}{k:ae}{o:ao ag}(h:l[k]? =o):l.toArray[k]? =o:=IB.trans h
theorem Tb(I:aB):yQ X w I "list_iterator" (Jr I) where
 own:=by decide
 rc:=λst=>by induction st with|mk _ it=>exact Jr.rc it
 frame:=λst g ι k=>by induction st with|mk hp it=>exact⟨g.get hp,it.at k⟩
 next:=λ{ρ σ i r A s Q E}st S m RA q=>by
  induction st with
  |mk hp it=>
   refine ck λp=>?_;obtain⟨l,x,rfl⟩:=KV m;obtain⟨vs,c,o,j⟩:=S.lst hp x;refine p ?_
   induction e:z' l _ with
   |none=>exact wpAny_pyNext_list_end RA.handled it (du o) (vV (gi.out j e)) λh' f=>(e▸q) h' _ (nS f)|some v=>
    simp only[e]at q;obtain⟨u,y,z⟩:=gi.at j.rep e;exact wpAny_pyNext_list_item it (du o) (vV y) λh' d f=>NK.item q f (Jr.rc it) (by decide) (Jr.rc d) z ⟨hp,d⟩
 self:=λst q=>by induction st with|mk _ it=>exact wpAny_pyIter_listiter it q
theorem yS{xs:ab aB}{t:aB}{us:Array ag}(g:h.IsTuple t us)(x:∀a∈xs,EC h a):t∉xs:=λq=>by
 obtain⟨o',d,r⟩:=x t q;obtain⟨o,j,l,c,f⟩:=g;rw[j]at d;obtain rfl:=af d;rw[l,f]at r;rcases r with⟨_,_,e⟩|⟨_,e⟩|e|⟨⟨_,e⟩,_⟩
 ·cases e
 ·cases e
 ·injection e with e;exact er e (by decide)
 ·exact nomatch f.symm.trans e
theorem Jt{α:Type}{l r:ab α}{k:ae}{a:α}(e:l.drop k=a::r):l[k]? =aa a/\l.drop (k+1)=r:=by
 have h:(l.drop k)[0]? =aa a:=by rw[e];rfl
 exact⟨((nY).symm.trans h),by rw[<-W5,e];rfl⟩
theorem Ta.rc(it:h.IsTupleIter I p k):Rc h I "tuple_iterator":=it.elim λι z=>⟨z.1,z.2.1,z.2.2⟩
theorem N7(I:aB):yQ X w I "tuple_iterator" (Ta I X) where
 own:=by decide
 rc:=λst=>by induction st with|mk it=>exact Ta.rc it
 frame:=λst g x k=>by
  induction st with
  |mk it c n l=>
   obtain⟨o,j,_⟩:=id c;exact⟨it.at k,c.at λo j=>g.keep _ o j n (yS c x),g.off j n,l.mono g λa m us c=>yS c x m⟩
 next:=λ{ρ σ i r A s Q E}st S p RA q=>by
  induction st with
  |mk it c n l=>
   rcases KW p with⟨rfl,rfl⟩|⟨a,J,rfl,rfl⟩
   ·exact wpAny_pyNext_tuple_end RA.handled it c (vV (c_ (s9.mp (show F' _ _=[] from l.rep)))) λh' d=>q h' _ (nS d)
   ·refine ck λy=>?_
    obtain⟨u,z,e,C,D⟩:=l.rep;obtain⟨F,H⟩:=Jt e;refine y ?_;refine wpAny_pyNext_tuple_item it c (vV F) λh' f d=>NK.item q d (Ta.rc it) (by decide) (Ta.rc f) C ⟨f,c.at λo e=>(d.2 _ λq=>(Ta.rc it).nt (by decide) _ (q▸c)).trans e,n,?_⟩
    refine H▸?_;exact⟨l.1,D.but (nS d.extBut) λa us m=>by exact(aJ.mp m)▸(Ta.rc it).nt (by decide) us⟩
 self:=λst q=>by induction st with|mk it=>exact wpAny_pyIter_tupleiter it q
theorem X9.rc(it:Xd h I b t k):Rc h I "bytes_iterator":=it.elim λι z=>⟨z.1,z.2.1,z.2.2⟩
theorem N8(I:aB):yQ X w I "bytes_iterator" (X9 I) where
 own:=by decide
 rc:=λst=>by induction st with|mk it=>exact X9.rc it
 frame:=λst ι ι k=>by induction st with|mk it e=>exact⟨it.imp λo z=>⟨k o z.1,z.2⟩,e⟩
 next:=λ{ρ σ i r A s Q E}st S d RA q=>by
  induction st with
  |mk it e=>
   subst e
   induction hb:b.toList.drop k with
   |nil=>
    replace d:=hb▸d
    refine ck λj=>?_;injection d with d;subst d
    refine j ?_;exact KBw.next_end RA.handled it (lr.symm.trans (c_ (s9.mp hb))) λh' g=>q h' _ (nS g)
   |cons c r' =>
    replace d:=hb▸d
    injection d with d;subst d
    obtain⟨x,l⟩:=Jt hb;exact KBw.next_item it (lr.symm.trans x) λh' f g=>NK.item q g (X9.rc it) (by decide) (X9.rc f) ⟨_,rfl⟩ ⟨f,by rw[l];rfl⟩
 self:=λst q=>by induction st with|mk it=>exact KBw.pyIter_self it q
theorem A_(X:Ctx):∀l:ab ae,GB l=pZ ((fm X l).map λc=>((c.toNat:ae):Int))
 |[]=>rfl|c::r=>by
  show V.cons (.int (.ofNat (bz c 256))) (GB r)=V.cons (.int (((bR c).toNat:ae):Int)) _;simp only[A_ X r,show(bR c).toNat=bz c 256 from nG]
  rfl
theorem Wh.rc(it:IsRangeIter h I x y 1):Rc h I "range_iterator":=⟨it,rfl,rfl⟩
theorem N9(I:aB):yQ X w I "range_iterator" (Wh I) where
 own:=by decide
 rc:=λst=>by induction st with|mk it=>exact Wh.rc it
 frame:=λst ι ι k=>by induction st with|mk it=>exact⟨k _ it⟩
 next:=λ{ρ σ i r A s Q E}st S d RA q=>by
  induction st with
  |mk it=>
   induction m with
   |zero=>
    obtain rfl:=af d;exact wpAny_pyNext_range_end RA.handled it (Int.le_refl _) λh' e=>q h' _ (nS e)
   |succ m=>
    injection d with d;subst d
    exact wpAny_pyNext_range_item it (xP.mpr (k9 m)) λh' c e=>NK.item q e (Wh.rc it) (by decide) (Wh.rc c) ⟨_,rfl⟩ (by
     rw[show((m+1:ae):Int) - 1=(m:Int) from Int.add_sub_cancel (m:Int) 1]at c
     exact Wh.mk (k:=k+1) c)
 self:=λst q=>by induction st with|mk it=>exact wpAny_pyIter_rangeiter it q
theorem KX{n ep k z:ae}{r:ao (V×It)}(h:fP σ (.Z5 n ep k z)=aa r):∃l,σ.t.get n=aa (.dict l ep)/\il l=z/\su l=aq/\r=(z' (w8 l) k).map λv=>(v,.Z5 n ep (k+1) z):=by
 obtain⟨l,e,d,h⟩:=N6 h;obtain⟨f,h⟩:=Js h;obtain⟨c,g⟩:=fS f;obtain⟨c,j⟩:=fS c;exact⟨l,ay c▸d,ay j,g,vU h⟩
theorem X':∀{l:V}{k:ae}{v:V},z' l k=aa v->k<il l:=by
 intro l
 induction l with
 |cons a t b c=>
  intro k v h
  induction k with
  |zero=>exact k9 _|succ k=>exact VP (c h)
 |_=>intro k v h;exact b6 h
theorem X_.rc(it:h.IsKeyIter I d k z ep):Rc h I "dict_keyiterator":=it.elim λι z=>⟨z.1,z.2.1,z.2.2⟩
theorem Tc(I:aB):yQ X w I "dict_keyiterator" (X_ I) where
 own:=by decide
 rc:=λst=>by induction st with|mk _ it=>exact X_.rc it
 frame:=λst g ι k=>by induction st with|mk hp it=>exact⟨g.get hp,it.at k⟩
 next:=λ{ρ σ i r A s Q E}st S L RA q=>by
  induction st with
  |mk hp it=>
   refine ck λc=>?_;obtain⟨l,M,hz,m,rfl⟩:=KX L;obtain⟨es,o,F⟩:=S.We hp M;obtain⟨kvs,d,H,J⟩:=dictAt (w:=w) o F m;have p:kvs.length=z:=H.trans hz;subst p;refine c ?_
   induction e:z' (w8 l) k with
   |none=>
    simp only[e]at q;refine wpAny_pyNext_dict_end (knd:=fH w) RA.handled it d ?_ λh' x=>q h' _ (nS x)
    induction N:kvs[k]? with
    |none=>rfl|some y=>
     refine ck λc=>?_;obtain⟨R,C,_⟩:=J k y.1 y.2 N;refine c ?_;exact b6 (e.symm.trans C)
   |some v=>
    replace q:=e▸q
    have f:k<kvs.length:=by simp only[H,<-yK (w:=w) F];exact X' e
    refine ck λc=>?_;obtain⟨y,C,D,_⟩:=J k _ _ (az f);obtain rfl:=af (e.symm.trans C);refine c ?_;exact wpAny_pyNext_dict_item (knd:=fH w) it d (az f) λkey h' O j x=>NK.item q x (X_.rc it) (by decide) (X_.rc j) (X3 D O) ⟨hp,j⟩
 self:=λst q=>by induction st with|mk _ it=>exact wpAny_pyIter_keyiter it q
theorem qS(d:∀b o,b≠e->b≠it->h.get? b=aa o->h'.get? b=aa o):∀b o,b∉[e,it]->h.get? b=aa o->h'.get? b=aa o:=λb o c=>
 d b o (λq=>c (q▸ax)) λq=>c (q▸aK _ ax)
theorem pE{P:aB->Prop}(a:P e)(b:P it):∀x∈[e,it],P x:=λx c=>(aG.mp c).elim (λq=>q▸a) λq=>aJ.mp q▸b
inductive N_(X:Ctx)(e it:aB)(B:bJ->Int->Prop)(ρ:fO)(h:bJ):It->Prop
 |mk {n k:ae}{p:aB×aB} (hp:ρ[n]? =aa p) (b:B h ((k:ae):Int)) (hit:h.IsListIter it p.1 k) (ne:e≠it) (n1: ¬adr ρ e) (z1:X.h0.get? e=aw) (n2: ¬adr ρ it) (z2:X.h0.get? it=aw):N_ X e it B ρ h (.RK n k)
def EnB(e it:aB)(h:bJ)(k:Int):Prop:=∃old,IsEnum h e it k old
def EnO(e it:aB)(u:ag)(h:bJ)(k:Int):Prop:=∃x a,IsEnumOut h e it k x a/\u=.ref a
theorem KY{n k:ae}{r:ao (V×It)}(h:fP σ (.RK n k)=aa r):∃l,σ.t.get n=aa (.list l)/\r=(z' l k).map λv=>(.tup (.cons (.int (.ofNat k)) (.cons v .nil)),.RK n (k+1)):=(yR h).imp λι z=>⟨z.1,vU z.2⟩
theorem Td(e it:aB):pD X w e [e,it] (N_ X e it (EnB e it)) (λu=>N_ X e it (EnO e it u)) where
 frame:=λ{xs ρ h jk h' i}st g R=>by
  induction st with
  |mk hp b d ne j z1 m z2=>
   obtain⟨old,he⟩:=b;obtain⟨o,C,_⟩:=id d;exact⟨g.get hp,⟨old,g.keep _ _ he j λq=>(Rc.mk he rfl rfl).sa (by decide) (R _ q)⟩,d.at λo C=>g.keep _ _ C m λq=>(Jr.rc d).sa (by decide) (R _ q),ne,g.off he j,z1,g.off C m,z2⟩
 off:=λ{ρ h i}st=>by
  induction st with
  |mk hp b d ne j z1 m z2=>
   obtain⟨old,he⟩:=b;exact pE ((Rc.mk he rfl rfl).off (by decide) j z1) ((Jr.rc d).off (by decide) m z2)
 next:=λ{ρ σ i r A s Q E}st S W RA q=>by
  induction st with
  |mk hp b d ne j z1 m z2=>
   obtain⟨old,he⟩:=b;refine ck λz=>?_;obtain⟨l,Y,rfl⟩:=KY W;obtain⟨vs,c,C,U⟩:=S.lst hp Y;refine z ?_
   induction F:z' l k with
   |none=>
    exact aT (wpAny_pyNext_enum_end RA.handled he d (du C) (vV (gi.out U F)) λh' H=>(F▸q) h' _ (qS λb x ι J y=>H b x J y))
   |some v=>
    simp only[F]at q;obtain⟨u,Z,L⟩:=gi.at U.rep F;refine aT (wpAny_pyNext_enum_item he d (du C) (vV Z) ne λh' f p D hsz z=>?_);exact q _ h' _ (qS z) (pE ⟨_,f⟩ (Jr.rc p).live) ⟨_,[.int k s.toks,u],rfl,⟨_,D,rfl,_,rfl⟩,S.fresh.1,trivial,_,_,rfl,⟨s.toks,rfl⟩,_,_,rfl,L.but (qS z) λa us M=>pE (P:=λa=>∀us,¬s.heap.IsTuple a us) ((Rc.mk he rfl rfl).nt (by decide)) ((Jr.rc d).nt (by decide)) a M us,rfl⟩
     (N_.mk (k:=k+1) hp ⟨u,_,f,rfl⟩ p ne j z1 m z2)
 go:=λ{ρ i u v t A s Q E}N L ht q=>by
  induction N with
  |mk hp b d ne j z1 m z2=>
   obtain⟨x,a,f,rfl⟩:=b;obtain⟨es,k',ps,rfl⟩:=ht _ _ rfl;refine aT (wpAny_letOwnedTupleGo_enum f λh' O H=>?_);have z:=qS (e:=e) (it:=it) λb o J ι y=>(H.2 b J).trans y;exact q h' z (L.but z λa us M=>pE (P:=λa=>∀us,¬s.heap.IsTuple a us) ((Rc.mk f rfl rfl).nt (by decide)) ((Jr.rc d).nt (by decide)) a M us) ⟨hp,⟨x,O⟩,d.at λo y=>(H.2 it (Ne.symm ne)).trans y,ne,j,z1,m,z2⟩
 self:=λst q=>by induction st with|mk _ b=>exact b.elim λι he=>wpAny_pyIter_enum he q
def uI(z:aB)(TI:aB)(TO:aB)(i1:aB)(i2:aB)(l1:aB):Prop:=∀{w:bU}{A:aW}{s:ah}{E:ag->ah->Prop}{Q:Fin->ah->Prop}(j:A.handled=aw)(d:i1≠z)(l:l1≠z)(hz:IsZip s.heap z TI TO .none)(f:IsPair s.heap TI (.ref i1) (.ref i2))(m:s.heap.IsListIter i1 l1 0)(g:s.heap.IsList l1 #[])(p:∀h' e,(∀c o,c≠z->c≠i1->s.heap.get? c=aa o->h'.get? c=aa o)->(∃o,h'.get? e=aa o/\o.cls=.type "StopIteration")->E (.ref e) {s with heap:=h'}),bO (Md w) A (Builtin.«zip.__next__» ⟨[.ref z],[]⟩) Q E s
namespace EF
def zz:aB×aB×aB×aB×aB×aB:=gB λx=> ¬uI x.1 x.2.1 x.2.2.1 x.2.2.2.1 x.2.2.2.2.1 x.2.2.2.2.2
def z:aB:=zz.1
def TI:aB:=zz.2.1
def TO:aB:=zz.2.2.1
noncomputable def i1:aB:=zz.2.2.2.1
noncomputable def i2:aB:=zz.2.2.2.2.1
def l1:aB:=zz.2.2.2.2.2
theorem ok:uI z TI TO i1 i2 l1:=by
 intro w A s E Q M p D hz F N H O;show bO _ _ (field (.ref z) 2>>=_) _ _ _;refine ak (hE hz rfl (x:=.bool ai) rfl ?_);refine ak (hE hz rfl (x:=.ref TI) rfl ?_);refine ak (mi F rfl ?_);refine ak ?_;refine ak (hE hz rfl (x:=.none) rfl (aH ?_));refine ak (kX ?_);refine ak (hE hz rfl (x:=.ref TO) rfl ?_);refine ak (wpAny_setField_rec hz (by simp) λq d f=>?_)
 replace d:IsZip q z TI TO .ellipsis:=d
 refine ak ?_;refine ak (ak (wpAny_onRaise ?_));refine ak (wpAny_nextOf_list_end M (N.extBut f.extBut p) (H.extBut f.extBut D) rfl λr e g he=>?_);obtain⟨R,m,y⟩:=he;have j:IsZip r z TI TO .ellipsis:=g _ _ p.symm d;have J:e≠z:=λx=>by cases x;replace m:=j▸m;obtain rfl:=af m;simp at y
 refine wpAny_setField_rec j (by simp) λC ι l=>O C e (λc o L S x=>l.extBut _ _ L (g _ _ S (f.extBut _ _ L x))) ⟨R,l.extBut _ _ J m,y⟩
end EF
theorem Te:uI z TI TO i1 i2 l1:=@ub _ (λx=>uI x.1 x.2.1 x.2.2.1 x.2.2.2.1 x.2.2.2.2.1 x.2.2.2.2.2) (z,TI,TO,i1,i2,l1) @EF.ok
theorem N'{Q:ao ag->ah->Prop}(j:A.handled=aw)(d:i1≠z)(l:l1≠z)(hz:IsZip s.heap z TI TO .none)(f:IsPair s.heap TI (.ref i1) (.ref i2))(m:s.heap.IsListIter i1 l1 0)(g:s.heap.IsList l1 #[])(p:∀h',(∀c o,c≠z->c≠i1->s.heap.get? c=aa o->h'.get? c=aa o)->Q aw {s with heap:=h'}):bO (Md w) A (Rj (.ref z)) Q E s:=by
 have hT:s.TypeIs (.ref z) "zip":=⟨_,hz,rfl⟩;refine ak (wpAny_attempt (lq (name:=aL "__next__") hT F.slot_zip_next
  (eS F.slot_zip_next hT F.entry_zip_next (Te j d l hz f m g λh' e q he=>?_) (F.args_zip_next_1 _))))
 refine ck λr=>?_;obtain⟨o,x,y⟩:=he;refine r ?_;refine ak (iC (T:="StopIteration") (b:=aq) ⟨o,x,y⟩ isSubtype_stop ?_);exact aH (p _ q)
inductive Yb(X:Ctx)(z TI TO i1 i2:aB)(ρ:fO)(h:bJ):It->Prop
 |mk {n:ae}{p:aB×aB} (hp:ρ[n]? =aa p) (hz:IsZip h z TI TO .none) (hTI:IsPair h TI (.ref i1) (.ref i2)) (hit:h.IsListIter i1 p.1 0) (ne:i1≠z) (n1: ¬adr ρ z) (z1:X.h0.get? z=aw) (n2: ¬adr ρ i1) (z2:X.h0.get? i1=aw) (n3: ¬adr ρ TI):Yb X z TI TO i1 i2 ρ h (.zp n)
theorem Oa{n:ae}{r:ao (V×It)}(h:fP σ (.zp n)=aa r):σ.t.get n=aa (.list .nil)/\r=aw:=by
 obtain⟨l,c,h⟩:=yR h
 induction l using V.casesOn with
 |nil=>exact⟨c,(af h).symm⟩|_=>exact b6 h
theorem Yc(z TI TO i1 i2:aB):pD X w z [z,i1] (Yb X z TI TO i1 i2) (λι ι ι ι=>jD) where
 frame:=λ{xs ρ h jk h' i}st g x=>by
  induction st with
  |mk hp hz e d ne f z1 j z2 m=>
   obtain⟨o,l,_⟩:=id d;exact⟨g.get hp,g.keep _ _ hz f λq=>(Rc.mk hz rfl rfl).sa (by decide) (x _ q),g.keep _ _ e m (yS (us:= #[.ref i1,.ref i2]) ⟨_,e,rfl,_,rfl⟩ x),d.at λo l=>g.keep _ _ l j λq=>(Jr.rc d).sa (by decide) (x _ q),ne,g.off hz f,z1,g.off l j,z2,g.off e m⟩
 off:=λ{ρ h i}st=>by
  induction st with
  |mk hp hz e d ne f z1 j z2 m=>exact pE ((Rc.mk hz rfl rfl).off (by decide) f z1) ((Jr.rc d).off (by decide) j z2)
 next:=λ{ρ σ i r A s Q E}st S C RA q=>by
  induction st with
  |mk hp hz e d ne f z1 j z2 m=>
   refine ck λp=>?_;obtain⟨D,rfl⟩:=Oa C;obtain⟨vs,c,l,F⟩:=S.lst hp D
   cases show vs=[] from F.rep
   refine p ?_;exact aT (N' RA.handled ne (λq=>f (.inr ⟨_,aA hp,.inl q.symm⟩)) hz e d (du l) λh' p=>q h' _ (qS p))
 go:=λy ι ι ι=>y.elim
 self:=λst q=>by induction st with|mk _ hz=>exact wpAny_pyIter_zip hz q
theorem KZ{Q:ag->ah->Prop}(c:(d==IC)=ai)(o:s.heap.get? d=aa (mz es ep))(e:Q (.ref s.heap.objs.size) {s with heap:=s.heap.push {cls:=.type "dict_keyiterator",data:=.fields #[.ref d,.int 0 0,.int es.length 0,.int ep 0]}}):
  bO (Md w) A (kY (.ref d)) Q E s:=by
 have hT:s.TypeIs (.ref d) "dict":=⟨_,o,rfl⟩;refine wpAny_pyIter_slot hT F.slot_dict_iter (eS F.slot_dict_iter hT F.entry_dict_iter ?_ (F.args_dict_iter_1 _));refine ak ?_;refine ak (mQ hT ?_);show bO _ _ (pure (cX d)) _ _ s;refine aH ?_;show bO _ _ (z8 d>>=_) _ _ s;unfold z8;rw[aU (by rw[c];exact bM)]
 refine ak (aH ?_);refine ak (AX o rfl ?_);refine ak (wpAny_dictEpoch o rfl ?_);refine ak (qA (aH ⟨_,rfl,"dict_keyiterator",_,⟨_,bA _ rfl,rfl⟩,F.slot_dict_keyiterator_next.lookup,?_⟩));simpa[pS] using e
theorem EG{n:ae}(h:n<=4096):Af 0 (n:Int) 1=aq/\ng 0 (n:Int) 1=(n:Int):=by
 have e:ng 0 (n:Int) 1=(n:Int):=by
  unfold ng;simp;lia
 refine⟨?_,e⟩;unfold Af;rw[e];simp[Builtin.Range.rangeFitsLong];lia
end
inductive RI(G:Gm)(k0:Kf)(k:Kf)(i:It)(v:ag):Prop
 |mk (I:aB) (wr:ab aB) (CS:fO->bJ->It->Prop) (CR:ag->fO->bJ->It->Prop) (eq:v=.ref I) (ok:pD G.X G.w I wr CS CR) (st:CS k.ρ k.h i) (cP:∀a∈wr,k0.h.get? a=aw)
variable{G:Gm}{n:ae}{k:Kf}{σ:St}{a b v:V}{u u1 u2:ag}{t:Sem ag}
theorem aN.it(h:∀A Q E,el A n->SR G k σ->N4 G.X G.w k.ρ (sh G.b k) i Q->bO (Md G.w) A t Q E (sh G.b k)):aN G n k σ (rt i) (RI G k) t:=λx τ e S A Q E R q=>by
 refine ck λc=>?_;obtain⟨rfl,rfl⟩:=av (af e);refine c ?_;exact aT (h A Q E R S λI wr d CR h' tk K c st cP=>q (.ref I) ⟨k.ρ,h',tk⟩ (bY.old c) (S.keeps c) ⟨I,wr,d,CR,rfl,K,st,cP⟩)
theorem Ob(M:An G.X)(r:RV G k v u):aN G 8 k σ (Km v) (RI G k) (kY u):=
 aN.alt (aN.mn (T:=kY) r λl a us D=>aN.it λA Q E R S q=>wpAny_pyIter_tuple D.tup
  (One.new (tk:=k.tk) (N7 _) S (Ta.mk (k:=0) ⟨_,bA _ rfl,rfl,rfl⟩ (D.tup.push _) D.off (D.rep.mono (bY.old (xs:=[]) dt) NT.nil)) q))
 (aN.alt (aN.cb (T:=kY) r λj l p vs c L=>aN.it λA Q E R S q=>wpAny_pyIter_list (du L.obj)
  (One.new (tk:=k.tk) (Tb _) S (Jr.mk (k:=0) L.sC ⟨_,bA _ rfl,rfl,rfl⟩) q))
 (aN.alt (aN.fu (T:=kY) r λj l ep p es D=>aN.it λA Q E R S q=>KZ (pq S M D.sC) D.obj
  (One.new (tk:=k.tk) (Tc _) S (X_.mk (k:=0) D.sC (by rw[<-eJ.len (w:=G.w) D.rep];exact⟨_,bA _ rfl,rfl,rfl⟩)) q))
 (aN.fB (T:=kY) r λl t=>aN.it λA Q E R S q=>KBw.pyIter_bytes
  (One.new (tk:=k.tk) (N8 _) S (X9.mk (k:=0) ⟨_,bA _ rfl,rfl,rfl⟩ (A_ G.X l)) q))))
end
section
abbrev WP(β:Type):=aW->(β->ah->Prop)->(ag->ah->Prop)->ah->Prop
def bG(G:Gm)(n:ae)(k:Kf)(σ:St){α β:Type}(c:Rm α)(rep:Kf->α->β->Prop)(W:WP β):Prop:=
 ∀a τ,c σ=aa (a,τ)->SR G k σ->∀A Q E,el A n->(∀v k',Le k k'->SR G k' τ->rep k' a v->Q v (sh G.b k'))->W A Q E (sh G.b k)
structure gw(G:Gm)(r:Rec)(n:ae):Prop where
 ev:∀{sc e re k σ env},cB G k env sc re->aN G n k σ (r.ev sc e re) (RV G) (cn e env)
 tr:∀{sc e re k σ env},cB G k env sc re->aN G n k σ (r.tr sc e re) RB (isTrue e env (cn e env))
structure Wi(G:Gm)(K:jT):Prop where
 mods:An G.X
 attr:CG G.X K
 bi:∀k,G.X.Gd k=mr k
 glob:G9 G.X gl
variable{G:Gm}{K:jT}{n m:ae}{k:Kf}{σ:St}{α β γ δ:Type}{c d:Rm α}{rep:Kf->α->β->Prop}{t:Sem β}{W:WP β}{r:Rec}{sc:Sc}{re:aX}{env:Env}{pos:Pos}{v:V}{u:ag}
theorem bG.bind{f:α->Rm γ}{W:β->WP δ}(h:aN G n k σ c rep t)(hf:∀a b v k₁,Le k k₁->rep k₁ a v->bG G n k₁ b (f a) p (W v)):bG G n k σ (b8 c f) p (λA Q E s=>bk (Md G.w) A t (λv g=>W v A Q E g) E s):=λx τ e S A Q E R q=>by
 refine ck λz=>?_;obtain⟨a,b,e1,e2⟩:=br e;refine z ?_;exact h a b e1 S A _ E R λv k₁ l i r=>hf a b v k₁ l r x τ e2 i A Q E R λy j o=>q y j (l.trans o)
theorem bG.sim(h:bG G n k σ c rep W)(i:∀A Q E,el A n->W A Q E (sh G.b k)->bk (Md G.w) A t Q E (sh G.b k)):aN G n k σ c rep t:=λa τ e S A Q E R q=>i A Q E R (h a τ e S A Q E R q)
theorem bG.cS(h:bG G n k σ c rep W1)(f:bG G n k σ d rep W2):bG G n k σ (cS b c d) rep (λA Q E s=>if b then W1 A Q E s else W2 A Q E s):=by
 cases b with
 |true=>intro a τ e S A Q E R q;show(if aq=aq then W1 A Q E (sh G.b k) else W2 A Q E (sh G.b k));rw[bc rfl];exact h a τ e S A Q E R q
 |false=>intro a τ e S A Q E R q;show(if ai=aq then W1 A Q E (sh G.b k) else W2 A Q E (sh G.b k));rw[aU bM];exact f a τ e S A Q E R q
theorem bG.to{f:WP β}(h:bG G n k σ c rep W)(i:∀A Q E,W A Q E (sh G.b k)->f A Q E (sh G.b k)):bG G n k σ c rep f:=λa τ e S A Q E R q=>i A Q E (h a τ e S A Q E R q)
theorem bG.rt{a:α}{v:β}(h:rep k a v):bG G n k σ (rt a) rep (λA Q E s=>Q v s):=λx τ e S A Q E R q=>by cases e;exact q v k (Le.refl k) S h
theorem bG.post{f:α->γ}{p:Kf->γ->β->Prop}{W:WP β}(h:bG G n k σ c rep W)(o:∀A Q g E s,(∀v s,Q v s->g v s)->W A Q E s->W A g E s)(i:∀k' a v,rep k' a v->p k' (f a) v):bG G n k σ (b8 c λa=>M.Internal.rt (f a)) p W:=λx τ e S A Q E R q=>by
 refine ck λj=>?_;obtain⟨a,b,e1,e2⟩:=br e;clear e;obtain⟨rfl,rfl⟩:=av (af e2);refine j ?_;exact h a _ e1 S A Q E R λv k' l S r=>q v k' l S (i k' a v r)
theorem EH:∀l:ab cK,nats l=l.map xt
 |[]=>rfl|c::r=>aY (c.toNat::·) (EH r)
theorem K0(X:Ctx)(l:ab cK):fm X (nats l)=l:=by
 simp only[EH,fm,fz];refine(Mr λc ι=>?_).trans (ab.map_id _);have:c.toNat<256:=c.toNat_lt;exact cK.ofNat_toNat
theorem K1{c:Const}{j:ae}(e:Nn c=aa v):aN G n k σ (rt v) (RV G) (cn (.Constant c j pos) env):=by
 rcases c<;>cases e
 ·exact aN.leaf λA Q E ι q=>wpAny_Constant_none (q _ k.tk rfl)
 ·exact aN.leaf λA Q E ι q=>wpAny_Constant_bool (q _ k.tk rfl)
 ·exact aN.leaf λA Q E ι q=>wpAny_Constant_int (q _ _ ⟨_,rfl⟩)
 ·exact aN.leaf λA Q E ι q=>wpAny_Constant_str (q _ _ ⟨k.tk,rfl⟩)
 ·exact aN.leaf λA Q E ι q=>Constant_bytes (q _ _ ⟨k.tk,by rw[K0]⟩)
theorem G'{x:Str}{nm:Nm}(e:uf sc x=aa nm):∃m,fA x=aa m/\odd m=ai/\∃a,g_ sc x=aa a/\(((a=.local\/a=.cell\/a=.free)/\nm=.loc m)\/a=.globalImplicit/\∃v,gl m=aa v/\nm=.cst v):=by
 obtain⟨m,b,e⟩:=aeC (o:=fA x) e;refine⟨m,b,?_⟩
 induction h:odd m with
 |true=>rw[h]at e;exact b6 e|false=>
  rw[h]at e;obtain⟨a,g,e⟩:=aeC (o:=g_ sc x) (f:=cNm m) e;refine⟨rfl,a,g,?_⟩
  induction a with
  |«local»=>exact .inl ⟨.inl rfl,(af e).symm⟩|cell=>exact .inl ⟨.inr (.inl rfl),(af e).symm⟩|free=>exact .inl ⟨.inr (.inr rfl),(af e).symm⟩|globalImplicit=>
   obtain⟨v,i,e⟩:=aeC (o:=gl m) e;exact .inr ⟨rfl,v,i,(af e).symm⟩
  |globalExplicit=>exact b6 e
theorem EI(e:fA x=aa m)(o:odd m=ai):(x==("__debug__":Str))=ai/\(x==("__classdict__":Str))=ai:=by
 have h:=(vR e).2;clear e;subst h;unfold odd at o;rw[i_]at o;exact⟨cV.mpr λq=>by subst q;exact er o.1 (by decide+kernel),cV.mpr λq=>by subst q;exact er o.2 (by decide+kernel)⟩
theorem EJ(H:Wi G K)(e:uf sc x=aa nm)(R:cB G k env sc re):aN G n k σ ((nmA nm).f T r re) (RV G) (cn (.Name x pos) env):=by
 obtain⟨m,a,o,i,g,h⟩:=G' e;obtain⟨j,l⟩:=EI a o;clear e;rcases h with⟨p,rfl⟩|⟨rfl,v,b,rfl⟩
 ·refine aN.opt λv b=>G_ a b R ?_ j l
  rcases R.kinds x i g with q|⟨rfl,q⟩
  ·refine q▸?_;rcases p with rfl|rfl|rfl
   ·exact .inl rfl
   ·exact .inr (.inl rfl)
   ·exact .inr (.inr rfl)
  ·exact .inr (.inl q)
 ·rcases R.kinds x _ g with q|⟨q,_⟩
  ·exact ED H.glob a b R q
  ·exact nomatch q
variable(H:Wi G K)(I:gw G r n)
include H I
theorem Oc(i:2<=n)(R:cB G k env sc re):aN G n k σ (b8 (r.ev sc a re) λu=>b8 (r.ev sc b re) λv=>Xx op u v) (RV G) (cn (.BinOp a op b pos) env):=
 bG.sim (bG.bind (I.ev R) λa e u k₁ l j=>bG.bind (I.ev (R.mono l)) λb f u2 g l2 o=>(SK op (j.mono l2 NT.nil) o).less i) λA Q E ι h=>Kq h
theorem Od(e:2<=n)(R:cB G k env sc re):aN G n k σ (b8 (r.ev sc a re) Xy) (RV G) (cn (.UnaryOp .USub a pos) env):=
 bG.sim (bG.bind (I.ev R) λa b u k₁ l f=>(SM f).less e) λA Q E ι h=>qL h
theorem Oe(o:2<=n)(R:cB G k env sc re):aN G n k σ (b8 (r.ev sc a re) λv=>toV (notM (pa v))) (RV G) (cn (.UnaryOp .Not a pos) env):=
 bG.sim (bG.bind (I.ev R) λa f u k₁ l p=>(λx τ e S A Q E R q=>by
  refine ck λy=>?_;obtain⟨b,i,e1,e2⟩:=br e;obtain⟨g,j,e3,e4⟩:=br e1;clear e;obtain⟨rfl,rfl⟩:=av (af e2);obtain⟨rfl,rfl⟩:=av (af e4);refine y ?_;exact GJ ((rB p).less o g _ e3 S A _ E R λv k' l S r=>by
   have r:g=v:=r;subst r;exact q _ k' l S (by show ag.bool (!g)=.bool (dU g);rw[pk])):bG G n k₁ f (toV (notM (pa a))) (RV G) (λA Q E s=>bk (Md G.w) A (Q7 .Not u) Q E s))) λA Q E ι h=>qL h
theorem Tf{c a b:aQ}(R:cB G k env sc re):aN G n k σ (mx (r.tr sc c re) (r.ev sc a re) (r.ev sc b re)) (RV G) (cn (.IfExp c a b pos) env):=
 bG.sim (W:=λA Q E s=>bk (Md G.w) A (isTrue c env (cn c env)) (λg e=>if g then bk (Md G.w) A (cn a env) Q E e else bk (Md G.w) A (cn b env) Q E e) E s)
  (bG.bind (I.tr R) λt f j k₁ l i=>by subst i;exact bG.cS (I.ev (R.mono l)) (I.ev (R.mono l))) λA Q E ι h=>Kr h
omit H I in
theorem tD(h:dU (isSet e)=aq)(op:jW):Mm op e=ai:=by
 rcases e<;>first|rfl|exact fT h
theorem Of(i:2<=n)(s:dU (isSet b)=aq)(R:cB G k env sc re):aN G n k σ (b8 (r.ev sc a re) λu=>b8 (r.ev sc b re) λv=>toV (qI op u v)) (RV G) (cn (.Compare a [op] [b] pos) env):=
 bG.sim (bG.bind (I.ev R) λa e u k₁ l j=>bG.bind (I.ev (R.mono l)) λb f u2 g l2 o=>(((ry H.mods op (j.mono l2 NT.nil) o).less i).map λk' a v ι(r:v=.bool a)=>(r:RV G k' (.bool a) v))) λA Q E ι h=>Ct h (tD s op)
theorem Og(p:2<=n)(y:dU (isSet b)=aq)(R:cB G k env sc re):aN G n k σ (b8 (r.ev sc a re) λu=>b8 (r.ev sc b re) λv=>qI op u v) RB (isTrue (.Compare a [op] [b] pos) env o):=
 bG.sim (bG.bind (I.ev R) λa j u k₁ l z=>bG.bind (I.ev (R.mono l)) λb f u2 g l2 C=>(λx τ e S A Q E R q=>(ry H.mods op (z.mono l2 NT.nil) C).less p x τ e S A _ E R λv k' l S r=>by
   have r:v=.bool x:=r;subst r;exact aT (fi (q x k' l S rfl)):bG G n g f (qI op a b) RB (λA Q E s=>bk (Md G.w) A (cq op u u2) (λc i=>bk (Md G.w) A (iB c) Q E i) E s))) λA Q E ι h=>r8 h (tD y op)
omit H in
theorem rF:∀{es:ab aQ}{k:Kf}{σ:St},fb es=aq->cB G k env sc re->aN G n k σ (te r sc re es) (pj G) (oV (f6 pos (dm es env)))
 |[],k,σ,c,R=>λa τ e S A Q E ι q=>by
  refine ck λp=>?_;obtain⟨rfl,rfl⟩:=av (af e);refine p ?_;exact n7 (q [] k (Le.refl k) S ⟨trivial,rfl⟩)
 |e::es,k,σ,h,R=>by
  have h:cS (dU (isStar e)) (fb es) ai=aq:=h
  induction y:isStar e with
  |true=>rw[y]at h;exact fT h|false=>
   rw[y]at h;exact bG.sim (bG.bind (I.ev R) λa g u k₁ l C=>(λx τ e S A Q E D q=>by
    refine ck λp=>?_;obtain⟨vs,z,e1,e2⟩:=br e;obtain⟨rfl,rfl⟩:=av (af e2);refine p ?_;exact rF h (R.mono l) vs _ e1 S A _ E D λus i b j f=>q (u::us) i b j ⟨f.lst,u,us,rfl,C.mono b NT.nil,f.rep⟩:bG G n k₁ g (b8 (te r sc re es) λvs=>M.Internal.rt (a::vs)) (pj G) (λA Q E s=>bk (Md G.w) A (oV (f6 pos (dm es env))) (λvs o=>Q (u::vs) o) E s))) λA Q E ι h=>mS h (by rcases e<;>first|rfl|exact tF y)
omit H I in
theorem bG.eB(h:b=aq->bG G n k σ c rep W):bG G n k σ (M.Internal.eB b c) rep W:=by
 induction b with
 |true=>exact h rfl|false=>exactλι ι e=>b6 e
omit H I in
theorem bG.tup(r:RL G k l us):bG G n k σ (Si l) (RV G) (λA Q E s=>us.length<=ec/\Q (.ref s.heap.objs.size) {s with heap:=s.heap.push {cls:=.type "tuple",data:=.seq us.toArray}}):=
 bG.eB λf x τ e S A Q E R q=>by
  refine ck λa=>?_;obtain⟨rfl,rfl⟩:=av (af e);refine a ?_;have h:us.length<=4096:=by rw[hA r];exact ble f
  exact⟨by rw[bD];lia,q (.ref (sz k)) ⟨k.ρ,_,k.tk⟩ (bY.old dt) (S.keeps dt) ⟨_,us,rfl,⟨_,bA _ rfl,rfl,_,rfl⟩,(S.cP (cO (aF _))).1,r.lst,r.rep.mono (bY.old (xs:=[]) dt) NT.nil⟩⟩
omit H I in
theorem bG.lst(r:RL G k l us):bG G n k σ (qj l) (RV G) (λA Q E s=>us.length<=ec/\Q (.ref s.heap.objs.size) {s with heap:=s.heap.push (GR us)}):=
 bG.eB λf x τ e S A Q E R q=>by
  refine ck λa=>?_;obtain⟨i,rfl,rfl⟩:=ox e;refine a ?_;have j:us.length<=4096:=by rw[hA r];exact ble f
  have b:=bA k.h (o:=GR us) rfl;refine ck λa=>?_;obtain⟨hp,w,y⟩:=h5.alloc S (p:=(sz k,sz k)) (h' :=k.h.push (GR us)) i dt (cO (aF _)) (cO (aF _)) ⟨_,b⟩ ⟨_,b⟩ (pn rfl (by simp)) (pn rfl (by simp))
   λg=>⟨rfl,us,_,j,b,r.lst,r.rep.mono g NT.nil⟩
  refine a ?_;exact⟨by rw[bD];lia,q (.ref (sz k)) ⟨_,_,k.tk⟩ y w ⟨_,hp,rfl⟩⟩
omit H in
theorem Oh(s:fb es=aq)(R:cB G k env sc re):aN G n k σ (b8 (te r sc re es) λvs=>Si (cu vs)) (RV G) (cn (.Tuple es j pos) env):=
 bG.sim (bG.bind (rF (pos:=pos) I s R) λvs a us k₁ l b=>bG.tup b) λA Q E ι h=>Ks h
omit H in
theorem Oi(s:fb es=aq)(R:cB G k env sc re):aN G n k σ (b8 (te r sc re es) λvs=>qj (cu vs)) (RV G) (cn (.List es pos) env):=
 bG.sim (bG.bind (rF (pos:=pos) I s R) λvs a us k₁ l b=>bG.lst b) λA Q E ι h=>NA h
omit H I in
theorem bool_and(h:bk M A x (λv b=>bk M A (iB v) (λt a=>if t then bk M A (rh pos .And (y::rest)) Q E a else Q v a) E b) E s):bk M A (rh pos .And (x::y::rest)) Q E s:=by
 show bk M A (do
  let v<-x
  ij pos
  let t<-dJ [v] (iB v)
  match BoolOp.And,t with
  |.And,ai|.Or,aq=>pure v
  |c,d=>rh pos .And (y::rest)) Q E s
 refine aj (aI h (λv b f=>aj (a8 (aj (aP (aI f (λt a e=>?_) λι ι x=>x))))) λι ι x=>x)
 induction t with
 |true=>exact e|false=>exact aO e
omit H I in
theorem Tg(h:bk M A x (λv b=>bk M A (iB v) (λt a=>if t then Q v a else bk M A (rh pos .Or (y::rest)) Q E a) E b) E s):bk M A (rh pos .Or (x::y::rest)) Q E s:=by
 show bk M A (do
  let v<-x
  ij pos
  let t<-dJ [v] (iB v)
  match BoolOp.Or,t with
  |.And,ai|.Or,aq=>pure v
  |c,d=>rh pos .Or (y::rest)) Q E s
 refine aj (aI h (λv b f=>aj (a8 (aj (aP (aI f (λt a e=>?_) λι ι x=>x))))) λι ι x=>x)
 induction t with
 |true=>exact aO e|false=>exact e
theorem EK(i:2<=n):∀{es:ab aQ}{k:Kf}{σ:St},cB G k env sc re->aN G n k σ (andM r sc re es) (RV G) (rh pos .And (nD es env))
 |[],k,σ,R=>aN.bW|[e],k,σ,R=>I.ev R|e::e2::es,k,σ,R=>bG.sim (W:=λA Q E s=>bk (Md G.w) A (cn e env) (λv b=>bk (Md G.w) A (iB v) (λt a=>if t then bk (Md G.w) A (rh pos .And (nD (e2::es) env)) Q E a else Q v a) E b) E s)
  (bG.bind (I.ev R) λv f u k₁ l j=>bG.bind (W:=λt A Q E s=>if t then bk (Md G.w) A (rh pos .And (nD (e2::es) env)) Q E s else Q u s) ((rB j).less i) λt g q o l2 p=>by subst p;exact bG.cS (EK i (R.mono (l.trans l2))) (bG.rt (j.mono l2 NT.nil))) λA Q E ι h=>bool_and h
theorem Ju(i:2<=n):∀{es:ab aQ}{k:Kf}{σ:St},cB G k env sc re->aN G n k σ (orM r sc re es) (RV G) (rh pos .Or (nD es env))
 |[],k,σ,R=>aN.bW|[e],k,σ,R=>I.ev R|e::e2::es,k,σ,R=>bG.sim (W:=λA Q E s=>bk (Md G.w) A (cn e env) (λv b=>bk (Md G.w) A (iB v) (λt a=>if t then Q v a else bk (Md G.w) A (rh pos .Or (nD (e2::es) env)) Q E a) E b) E s)
  (bG.bind (I.ev R) λv f u k₁ l j=>bG.bind (W:=λt A Q E s=>if t then Q u s else bk (Md G.w) A (rh pos .Or (nD (e2::es) env)) Q E s) ((rB j).less i) λt g q o l2 p=>by subst p;exact bG.cS (bG.rt (j.mono l2 NT.nil)) (Ju i (R.mono (l.trans l2)))) λA Q E ι h=>Tg h
omit H in
theorem EL:∀{es:ab aQ}{k:Kf}{σ:St},cB G k env sc re->aN G n k σ (th r sc re es) RB (tU .And es env)
 |[],k,σ,R=>aN.leaf λA Q E ι q=>wpAny_allTrue_And_nil (q aq k.tk rfl)|e::es,k,σ,R=>bG.sim (W:=λA Q E s=>bk (Md G.w) A (isTrue e env (cn e env)) (λb a=>if b then bk (Md G.w) A (tU .And es env) Q E a else Q ai a) E s)
  (bG.bind (I.tr R) λt f i k₁ l g=>by subst g;exact bG.cS (EL (R.mono l)) (bG.rt rfl)) λA Q E ι h=>qM h
omit H in
theorem Jv:∀{es:ab aQ}{k:Kf}{σ:St},cB G k env sc re->aN G n k σ (orT r sc re es) RB (tU .Or es env)
 |[],k,σ,R=>aN.leaf λA Q E ι q=>wpAny_allTrue_Or_nil (q ai k.tk rfl)|e::es,k,σ,R=>bG.sim (W:=λA Q E s=>bk (Md G.w) A (isTrue e env (cn e env)) (λb a=>if b then Q aq a else bk (Md G.w) A (tU .Or es env) Q E a) E s)
  (bG.bind (I.tr R) λt f i k₁ l g=>by subst g;exact bG.cS (bG.rt rfl) (Jv (R.mono l))) λA Q E ι h=>r9 h
omit H I in
theorem Jw(h:dU (isSet e2)=aq)(a o:jW):lastMarks [a,o] [e1,e2]=ai:=tD h o
theorem Ha(N:2<=n){a b c:aQ}{i o:jW}(U:dU (isSet c)=aq)(R:cB G k env sc re):aN G n k σ (Cp r sc re i o a b c toV (M.Internal.rt (.bool ai))) (RV G) (cn (.Compare a [i,o] [b,c] pos) env):=
 bG.sim (W:=λA Q E s=>bk (Md G.w) A (cn a env) (λa f=>bk (Md G.w) A (cn b env) (λb j=>bk (Md G.w) A (cq i a b) (λC p=>bk (Md G.w) A (iB C) (λt g=>if t then bk (Md G.w) A (jQ pos b [o] [cn c env]) Q E g else Q C g) E p) E j) E f) E s)
  (bG.bind (I.ev R) λx D u1 k₁ l X=>bG.bind (I.ev (R.mono l)) λy F u2 O l2 P=>bG.bind ((ry H.mods i (X.mono l2 NT.nil) P).less N) λt J C S l3 L=>by
   have L:C=.bool t:=L;subst L
   induction t with
   |true=>exact bG.to (W:=λA Q E s=>bk (Md G.w) A (jQ pos u2 [o] [cn c env]) Q E s) (bG.sim (bG.bind (I.ev (R.mono ((l.trans l2).trans l3))) λz M u3 T Y Z=>((ry H.mods o (P.mono (l3.trans Y) NT.nil) Z).less N).map λk' a v ι(r:v=.bool a)=>(r:RV G k' (.bool a) v)) λA Q E ι h=>D_ h) λA Q E h=>aT (fi (by rw[bc rfl];exact h))|false=>exact bG.to (W:=λA Q E s=>Q (.bool ai) s) (bG.rt rfl) λA Q E h=>aT (fi (by rw[aU bM];exact h)))
  λA Q E ι h=>yv (rs:=[]) (ops:=[]) (aI h (λu1 f q=>D' q) λι ι e=>e) (Jw U i o)
theorem ac5(h:2<=n)(b:RV G k x u1)(f:RV G k y u2):bG G n k σ (qI op x y) RB (λA Q E s=>bk (Md G.w) A (cq op u1 u2) (λc a=>bk (Md G.w) A (iB c) Q E a) E s):=λx τ e S A Q E R q=>
 (ry H.mods op b f).less h x τ e S A _ E R λv k' l S r=>by
  have r:v=.bool x:=r;subst r;exact aT (fi (q x k' l S rfl))
theorem Hb(O:2<=n){a b c:aQ}{i j:jW}{o:Sem ag}(X:dU (isSet c)=aq)(R:cB G k env sc re):aN G n k σ (Cp r sc re i j a b c id (M.Internal.rt ai)) RB (isTrue (.Compare a [i,j] [b,c] pos) env o):=
 bG.sim (W:=λA Q E s=>bk (Md G.w) A (cn a env) (λa f=>bk (Md G.w) A (cn b env) (λb p=>bk (Md G.w) A (cq i a b) (λD q=>bk (Md G.w) A (iB D) (λt g=>if t then bk (Md G.w) A (o7 pos b [j] [cn c env]) Q E g else Q ai g) E q) E p) E f) E s)
  (bG.bind (I.ev R) λx F u1 k₁ l Y=>bG.bind (I.ev (R.mono l)) λy J u2 P l2 S=>bG.bind ((ry H.mods i (Y.mono l2 NT.nil) S).less O) λt L D T l3 M=>by
   have M:D=.bool t:=M;subst M
   induction t with
   |true=>exact bG.to (W:=λA Q E s=>bk (Md G.w) A (o7 pos u2 [j] [cn c env]) Q E s) (bG.sim (bG.bind (I.ev (R.mono ((l.trans l2).trans l3))) λz N u3 U Z r4=>ac5 H I O (S.mono (l3.trans Z) NT.nil) r4) λA Q E ι h=>GK h) λA Q E h=>aT (fi (by rw[bc rfl];exact h))|false=>exact bG.to (W:=λA Q E s=>Q ai s) (bG.rt rfl) λA Q E h=>aT (fi (by rw[aU bM];exact h)))
  λA Q E ι h=>Al (rs:=[]) (ops:=[]) (aI h (λu1 f C=>GL C) λι ι e=>e) (Jw X i j)
omit H in
theorem Oj{a:aQ}{o:Sem ag}(R:cB G k env sc re):aN G n k σ (notM (r.tr sc a re)) RB (isTrue (.UnaryOp .Not a pos) env o):=
 bG.sim (W:=λA Q E s=>bk (Md G.w) A (isTrue a env (cn a env)) (λb e=>Q (!b) e) E s) (bG.bind (I.tr R) λt f g k₁ l i=>bG.rt (v:=!g) (by subst i;exact pk t)) λA Q E ι h=>yw h
omit H in
theorem yT(b:2<=n)(he:isTrue e env (cn e env)=(do let v<-cn e env;ij e.pos;dJ [v] (iB v)))(R:cB G k env sc re):aN G n k σ (b8 (r.ev sc e re) pa) RB (isTrue e env (cn e env)):=
 bG.sim (bG.bind (I.ev R) λv a u k₁ l f=>(rB f).less b) λA Q E ι h=>vH h he
omit H in
theorem Th{c a b:aQ}(R:cB G k env sc re):aN G n k σ (mx (r.tr sc c re) (r.tr sc a re) (r.tr sc b re)) RB (isTrue (.IfExp c a b pos) env (cn (.IfExp c a b pos) env)):=
 bG.sim (W:=λA Q E s=>bk (Md G.w) A (isTrue c env (cn c env)) (λi f=>if i then bk (Md G.w) A (isTrue a env (cn a env)) Q E f else bk (Md G.w) A (isTrue b env (cn b env)) Q E f) E s)
  (bG.bind (I.tr R) λt j p k₁ l o=>by subst o;exact bG.cS (I.tr (R.mono l)) (I.tr (R.mono l))) λA Q E ι h=>by
   rw[arm_isTrue_IfExp];exact aj (aI h (λi f g=>by rcases i<;>exact g) λι ι e=>e)
omit H I in
theorem Jx(h:dU (uh o)=aq):Ms o a env w=w:=by
 induction o using dz with
 |Call f l m=>
  induction f using dz with
  |Name=>
   induction l using a6 with
   |nil=>
    induction m using a6 with
    |nil=>exact fT h|cons=>rfl
   |cons=>rfl
  |_=>rfl
 |_=>rfl
theorem K2(e:4<=n)(f:dU (uh a)=aq)(g:D0 name=aa x)(R:cB G k env sc re):aN G n k σ (b8 (r.ev sc a re) λv=>XE v x) (RV G) (cn (.Attribute a name pos) env):=
 bG.sim (bG.bind (I.ev R) λv b u k₁ l i=>(NW H.attr g i).less e) λA Q E ι h=>yx h (by rw[arm_eval_Attribute,Jx f])
omit H I in
theorem pF(h:bk (Md w) A (cn o env) (λu1 b=>bk (Md w) A (cn i env) (λu2 a=>bk (Md w) A (oz i u1 u2) Q E a) E b) E s):
  bk (Md w) A (cn (.Subscript o i pos) env) Q E s:=by
 rw[arm_eval_Subscript];refine aj (aI h (λu1 b f=>aj (aP (aI f (λu2 a g=>aj (a8 ?_)) λι ι e=>e))) λι ι e=>e);show bk (Md w) A (kI u1>>=λp=>nI i p u1 u2>>=λr=>wQ o u1 r>>=λι=>pure r) Q E a;have e:(kI u1>>=λp=>nI i p u1 u2>>=λr=>wQ o u1 r>>=λι=>pure r)=((kI u1>>=λp=>nI i p u1 u2)>>=λr=>wQ o u1 r>>=λι=>pure r):=by rw[bind_assoc]
 rw[e];exact aj (aI g (λr l j=>aj (aT<|wpAny_letTemporaryGo (aO j))) λι ι e=>e)
omit H in
theorem Ol(g:4<=n)(s:GF i=aw)(R:cB G k env sc re):aN G n k σ (b8 (r.ev sc a re) λv=>b8 (r.ev sc i re) λj=>XA v j) (RV G) (cn (.Subscript a i pos) env):=
 bG.sim (bG.bind (I.ev R) λv b u k₁ l o=>bG.bind (I.ev (R.mono l)) λj e u2 f l2 p=>(SV s (o.mono l2 NT.nil) p).less g) λA Q E ι h=>pF h
omit H in
theorem x8(R:cB G k env sc re):aN G n k σ (Sp r sc re e) (RV G) (qB (Gn e env)):=by
 induction e with
 |none=>exact aN.pure (rep:=RV G) rfl|some e=>exact I.ev R
omit H I in
theorem bG.slice{T:ag->Sem β}(h:∀k',Le k k'->k'.h.IsSliceOf (sz k) u2 u3 u4->aN G n k' σ c rep (T (.ref (sz k)))):bG G n k σ c rep (λA Q E s=>bk (Md G.w) A (T (.ref s.heap.objs.size)) Q E {s with heap:=s.heap.push {cls:=.type "slice",data:=.fields #[u2,u3,u4]}}):=λa τ e S A Q E R q=>
 have l:Le k ⟨k.ρ,k.h.push {cls:=.type "slice",data:=.fields #[u2,u3,u4]},k.tk⟩:=bY.old dt
 h ⟨k.ρ,_,k.tk⟩ l (Ag _ _ _ _) a τ e (S.keeps dt) A Q E R λv k' b=>q v k' (l.trans b)
omit H in
theorem Om(M:4<=n){a:aQ}{lo i:ao aQ}{p:Pos}(R:cB G k env sc re):aN G n k σ (b8 (r.ev sc a re) λv=>b8 (Sp r sc re lo) λl=>b8 (Sp r sc re i) λh=>Kk v l h) (RV G) (cn (.Subscript a (.Slice lo i aw p) pos) env):=
 bG.sim (W:=λA Q E s=>bk (Md G.w) A (cn a env) (λu1 f=>bk (Md G.w) A (qB (Gn lo env)) (λu2 g=>bk (Md G.w) A (qB (Gn i env)) (λu3 b=>bk (Md G.w) A (oz (.Slice lo i aw p) u1 (.ref b.heap.objs.size)) Q E {b with heap:=b.heap.push {cls:=.type "slice",data:=.fields #[u2,u3,.none]}}) E g) E f) E s)
  (bG.bind (I.ev R) λv z u k₁ l N=>bG.bind (x8 I (R.mono l)) λx C u2 J l2 O=>bG.bind (x8 I (R.mono (l.trans l2))) λy D u3 L l3 P=>
   bG.slice (T:=oz (.Slice lo i aw p) u) λk' F S=>(SW S (N.mono ((l2.trans l3).trans F) NT.nil) (O.mono (l3.trans F) NT.nil) (P.mono F NT.nil)).less M)
  λA Q E ι h=>pF (aI h (λu1 f j=>vI (aI j (λu2 g o=>aI o (λu3 b q=>aO q) λι ι e=>e) λι ι e=>e)) λι ι e=>e)
omit H I in
theorem rQ(h:cS a b ai=aq):a=aq/\b=aq:=by induction a with|true=>exact⟨rfl,h⟩|false=>exact fT h
omit H I in
theorem Yd(h:XI e=aq):∃a f g,e=.UnaryOp .USub (.Constant (.int (.ofNat 1)) a f) g:=by
 have h:=rQ h;refine aQ.UnaryOp.elim (motive_1:=λe=>cS (aes (unO e)) (onE 19 (unX e) (aen (csX (unX e))) ai) ai=aq->∃a f g,e=.UnaryOp .USub (.Constant (.int (.ofNat 1)) a f) g) e (ay h.1) (λo x p h=>?_) h.2;have h:=rQ (b:=onE 19 x (aen (csX x)) ai) h;have j:=rQ h.2;obtain rfl:o=.USub:=by
  induction o with
  |USub=>rfl|_=>exact fT h.1
 refine aQ.Constant.elim (motive_1:=λx=>aen (csX x)=aq->∃a f g,aQ.UnaryOp .USub x p=.UnaryOp .USub (.Constant (.int (.ofNat 1)) a f) g) x (ay j.1) (λc a f h=>?_) j.2
 induction c with
 |int i=>exact gd ((Je i (.ofNat 1)).symm.trans h)▸⟨a,f,p,rfl⟩|_=>exact fT h
omit H in
theorem Oo(j:4<=n){a st:aQ}{p:Pos}(g:XI st=aq)(R:cB G k env sc re):aN G n k σ (b8 (r.ev sc a re) XB) (RV G) (cn (.Subscript a (.Slice aw aw (aa st) p) pos) env):=by
 obtain⟨o,x,y,rfl⟩:=Yd g;exact bG.sim (W:=λA Q E s=>bk (Md G.w) A (cn a env) (λu1 b=>bk (Md G.w) A (oz (.Slice aw aw (aa (.UnaryOp .USub (.Constant (.int (.ofNat 1)) o x) y)) p) u1 (.ref b.heap.objs.size)) Q E {b with heap:=b.heap.push {cls:=.type "slice",data:=.fields #[.none,.none,.int (-1) (b.toks+1)]},toks:=b.toks+1+1}) E s)
  (bG.bind (I.ev R) λv i u k₁ l z=>(λa τ e S A Q E C q=>bG.slice (k:=⟨k₁.ρ,k₁.h,k₁.tk+1+1⟩) (T:=oz _ u) (λk' D g=>(SX g (z.mono D NT.nil)).less j) a τ e S A Q E C q))
  λA Q E ι h=>pF (aI h (λu1 b f=>vI (aO (aO (qL (aT (wpAny_Constant_int (aT (neg_int f)))))))) λι ι e=>e)
end
section
section
variable{X:Ctx}{w:bU}{A:aW}{s:ah}{ρ jk:fO}{h h' :bJ}{E:ag->ah->Prop}
def Binds(X:Ctx)(ρ:fO)(h:bJ):aX->ab (Str×ag)->Prop
 |[],b=>b=[]|(k,v)::r,b=>∃x u q,b=(x,u)::q/\fA x=aa k/\iU X ρ h v u/\Binds X ρ h r q
theorem EM{R:c8->ah->Prop}(m:A.depth<mh)(F:s.heap.get? a=aa o)(t:o.data=.func d)(j:s.heap.NoLimit)(C:s.heap.CodeRec d.code d.qualname)(y:d.body=.stmts body)(i:Rk s d ⟨l,[]⟩ binds)(p:d.closure=[])(c:∀x∈binds,d.scope.names.lookup x.1=aa .local\/(d.scope.names.lookup x.1=aa .cell/\((aeh (s.heap.objs.size+1) d.scope.names []).lookup x.1).isSome=aq))(h:∀b,InCallC s (cW d s.heap.objs.size a).locals (bindL (cW d s.heap.objs.size a).kindOf binds λι=>aw) (cW d s.heap.objs.size a).cells
    (bindC (cW d s.heap.objs.size a).kindOf binds λι=>aw) b->
   bk (bK prog w) (A.deeper (cW d s.heap.objs.size a)) (eY body (cW d s.heap.objs.size a)) (λf q=>R (.ok (.ret (match f with|.ret v=>v|_=>.none))) q)
    (λe q=>bk (bK prog w) (A.deeper (cW d s.heap.objs.size a)) (oX (cW d s.heap.objs.size a) e) (λι g=>R (.error e) g) (λH g=>R (.error H) g) q) b)(D:d.scope.isCoroutine=ai)(z:d.scope.isGenerator=ai)(I:d.scope.kind=.function):
  dg (bK prog w) A (.call (.ref a) ⟨l,[]⟩) R s:=by
 refine r_ m F t D z y C (aT (i _ _ _ _ ?_));refine p▸?_;refine aT<|wpAny_newFunctionEnv_cells I c λenv he q x=>?_
 refine ck λJ=>?_;subst he;refine J ?_;exact⟨j.keeps x.toInCall.keep,GN (h q x)⟩
theorem j7(names:ab (Str×ff)):∀(k:ae)(acc:ab (Str×aB)),(aeh k names acc).map (·.1)=((names.filter (·.2==.cell)).map (·.1)).reverse++acc.map (·.1):=by
 induction names with
 |nil=>exactλk acc=>rfl|cons p q i=>
  obtain⟨x,d⟩:=p;intro k acc
  by_cases a:(d==.cell)=aq
  ·refine(aY (Xg Xi) (bc a)).trans ((i _ _).trans ?_)
   rw[ab.filter_cons_of_pos (by exact a)];simp
  ·refine(aY (Xg Xi) (aU a)).trans ((i _ _).trans ?_)
   rw[ab.filter_cons_of_neg (by exact a)]
theorem sL{l:ab (Str×aB)}:(l.map (·.1)).Nodup->(x,a)∈l->l.lookup x=aa a:=lookup_of_mem_nodup
theorem mX{α:Type}{l:ab (Str×α)}:x∈l.map (·.1)->(l.lookup x).isSome=aq:=by
 induction l with
 |nil=>exactλh=>er h qh|cons p q i=>
  obtain⟨y,b⟩:=p;intro m;rw[dS]
  induction e:x==y with
  |true=>rfl|false=>exact i ((aG.mp m).resolve_left (cV.mp e))
theorem EN(d:(names.map (·.1)).Nodup)(k:ae):((aeh k names []).map (·.1)).Nodup:=by
 rw[j7];simp only[ab.map_nil,dj];have:=d.sublist (DT (·.1) (ab.filter_sublist (p:=λx=>x.2==.cell) (l:=names)));unfold ab.Nodup at this⊢;rw[fk];exact this.imp λh=>Ne.symm h
theorem vX{names:ab (Str×ff)}(e:names.lookup x=aa .cell)(k:ae):((aeh k names []).lookup x).isSome=aq:=by
 refine mX ?_;rw[j7];simp only[ab.map_nil,dj,gp];exact cE (f:=(·.1)) (eZ.mpr ⟨mem_of_lookup e,DH n0⟩:(x,n0)∈names.filter (λp=>p.2==.cell))
theorem Ba(d:Str->ao ff)(b:ab (Str×ag)):∀(m:Str->ao ag)(x:Str),x∉b.map (·.1)->bindL d b m x=m x:=by
 induction b with
 |nil=>exactλm x h=>rfl|cons p q i=>
  obtain⟨y,u⟩:=p;refineλm x h=>(i _ x λe=>h (aK _ e)).trans ?_
  by_cases e:d y=aa .local
  ·exact(AR (bc e) x).trans (aU λe:x=y=>h (aG.mpr (.inl e)))
  ·exact AR (aU e) x
theorem Bb(d:Str->ao ff)(b:ab (Str×ag)):∀(m:Str->ao ag)(x:Str),x∉b.map (·.1)->bindC d b m x=m x:=by
 induction b with
 |nil=>exactλm x h=>rfl|cons p q i=>
  obtain⟨y,u⟩:=p;refineλm x h=>(i _ x λe=>h (aK _ e)).trans ?_
  by_cases e:d y=aa .local
  ·exact AR (bc e) x
  ·exact(AR (aU e) x).trans (aU λe:x=y=>h (aG.mpr (.inl e)))
theorem EO(c:Str->ao ff)(b:ab (Str×ag)):∀(m:Str->ao ag)(x:Str)(u:ag),(b.map (·.1)).Nodup->(x,u)∈b->c x=aa .local->bindL c b m x=aa u:=by
 induction b with
 |nil=>exactλm x u d a=>er a qh|cons p q i=>
  intro m x u d a f;have d:=gV.mp d;rcases aG.mp a with e|a
  ·subst e
   exact(Ba c q _ x d.1).trans ((AR (bc f) x).trans (bc rfl))
  ·exact i _ x u d.2 a f
theorem EP(c:Str->ao ff)(b:ab (Str×ag)):∀(m:Str->ao ag)(x:Str)(u:ag),(b.map (·.1)).Nodup->(x,u)∈b->c x≠aa .local->bindC c b m x=aa u:=by
 induction b with
 |nil=>exactλm x u d a=>er a qh|cons p q i=>
  intro m x u d a f;have d:=gV.mp d;rcases aG.mp a with e|a
  ·subst e
   exact(Bb c q _ x d.1).trans ((AR (aU f) x).trans (bc rfl))
  ·exact i _ x u d.2 a f
theorem RO(y k:ae)(a:V)(q:aX):c0 ((y,a)::q) k=if k=y then aa a else c0 q k:=by
 show@dD (λι=>ao V) (c0 q k) (aa a) (au k y)=_
 by_cases h:k=y
 ·rw[bc h,TR.js,cc h]
 ·rw[aU h,TR.js,bw h]
theorem Binds.find:∀{c:ab (Str×ag)},Binds X ρ h re c->∀{x:Str}{k:ae}{v:V},fA x=aa k->c0 re k=aa v->∃u,(x,u)∈c/\iU X ρ h v u:=by
 induction re with
 |nil=>exactλb x k v d e=>b6 e|cons p q i=>
  obtain⟨y,a⟩:=p;intro c b x k v d e;obtain⟨z,u,t,rfl,hz,r,b⟩:=b;have e:=(RO y k a q).symm.trans e
  by_cases f:k=y
  ·obtain rfl:=af ((bc f).symm.trans e)
   exact⟨u,by rw[mV d (f▸hz)];exact ax,r⟩
  ·obtain⟨g,m,r'⟩:=i b d ((aU f).symm.trans e)
   exact⟨g,aK _ m,r'⟩
theorem Binds.mono(g:bY ρ h jk h' []):∀{a:ab (Str×ag)},Binds X ρ h re a->Binds X jk h' re a:=by
 induction re with
 |nil=>exactλb=>b|cons p q i=>
  intro a b;obtain⟨z,u,t,e,hz,r,b⟩:=b;exact⟨z,u,t,e,hz,r.mono g NT.nil,i b⟩
end
def RF(G:Gm)(env:Env)(sc:Sc)(k:Kf)(p:Fl×aX)(f:tT):Prop:=cB G k env sc p.2/\match p.1 with
 |.next=>f=.next|.ret v=>∃u,f=.ret u/\RV G k v u
structure oF(G:Gm)(r:Rec)(n:ae):Prop extends gw G r n where
 ex:∀{sc l re k σ env},cB G k env sc re->cU G n (cy env) k σ (r.ex sc l re) (RF G env sc) (eY l env)
def Hc(G:Gm)(n:ae)(k:Kf)(σ:St)(c:Rm V)(code:F7):Prop:=
 ∀v τ,c σ=aa (v,τ)->SR G k σ->∀A(Q:c8->ah->Prop),el A n->(∀u k',Le k k'->SR G k' τ->RV G k' v u->Q (.ok (.ret u)) (sh G.b k'))->dg (Md G.w) A code Q (sh G.b k)
structure FnAt(G:Gm)(j:ae)(f:Fn)(o:Obj)(fd:gU):Prop where
 at_:G.X.h0.get? (G.X.jV j)=aa o
 data:o.data=.func fd
 Ye:fd.body=.stmts f.body
 Ti:fd.scope.names=f.sc
 clo:fd.closure=[]
 kind:fd.scope.kind=.function
 co:fd.scope.isCoroutine=ai
 gen:fd.scope.isGenerator=ai
 glob:fd.globals=dh
 blt:fd.builtins=fh
 code:G.X.h0.CodeRec fd.code fd.qualname
 nodup:(fd.scope.names.map (·.1)).Nodup
 binds:∀as re us k σ,hI f.params as f.lz=aa re->pj G k as us->SR G k σ->∃bs,Rk (sh G.b k) fd ⟨us,[]⟩ bs/\Binds G.X k.ρ k.h re bs/\(bs.map (·.1)).Nodup/\
  ∀x∈bs,fd.scope.names.lookup x.1=aa .local\/fd.scope.names.lookup x.1=aa .cell
theorem kO(sc:Sc)(x:Str):g_ sc x=sc.lookup x:=by
 induction sc with
 |nil=>rfl|cons p q i=>
  obtain⟨y,d⟩:=p;show cS (sEq x.cps.toList y.cps.toList) (aa d) (g_ q x)=_;rw[dS,i,sEq_iff]
  by_cases e:x=y
  ·subst e;rw[cc rfl,DH];rfl
  ·rw[bw (λq=>e (by rcases x;rcases y;exact aY jc (pT.mp q))),cV.mpr e];rfl
structure qT(G:Gm)(K:jT)(T:Tab)(mm:ae):Prop extends Wi G K where
 lim:G.X.h0.NoLimit
 fn:∀j f,T.fn j=aa f->∃o fd,FnAt G j f o fd
 Wc:∀{j as us k σ},pj G k as us->Hc G mm k σ (T.Wc j as) (.call (.ref (G.X.jV j)) ⟨us,[]⟩)
 Jy:∀j,Keeps G (.ref (G.X.jV j))
 Wj:∀j,Keeps G (.ref (G.X.h_ j))
 He:∀j,Keeps G (G.X.Gd j)
 makes:∀c k,T.D1 c Gz=aa k->makesIn K (G.X.h_ c)=aq/\pU K (.ref (G.X.h_ c)) "__init__"=aa (aa (.ref (G.X.jV k)))/\typeIn K (.ref (G.X.jV k))=aa (.type "function")
 D1:∀c x k name,T.D1 c x=aa k->fA name=aa x->pU K (.ref (G.X.h_ c)) "__getattribute__"=aa (aa (.builtin "object.__getattribute__"))/\pU K (.ref (G.X.h_ c)) "__getattr__"=aa aw/\
  pU K (.ref (G.X.h_ c)) name=aa (aa (.ref (G.X.jV k)))/\typeIn K (.ref (G.X.jV k))=aa (.type "function")/\XH x=ai
variable{G:Gm}{K:jT}{T:Tab}{mm n:ae}{k:Kf}{σ:St}{r:Rec}{sc:Sc}{re:aX}{env:Env}{pos:Pos}{v:V}{u:ag}
theorem uJ(H:qT G K T mm){f:Fn}(hf:T.fn j=aa f)(Q:hI f.params as f.lz=aa re)(I:pj G k as us)(S:SR G k σ){A:aW}{O:c8->ah->Prop}(z:A.depth<mh)(h:∀{o:Obj}{d:gU}{k₁:Kf},FnAt G j f o d->Le k k₁->SR G k₁ σ->cB G k₁ (cW d k.h.objs.size (G.X.jV j)) f.sc re->(∀x∈cy (cW d k.h.objs.size (G.X.jV j)),k.h.get? x=aw)->
   bk (Md G.w) (A.deeper (cW d k.h.objs.size (G.X.jV j))) (eY f.body (cW d k.h.objs.size (G.X.jV j))) (λfl U=>O (.ok (.ret (match fl with|.ret v=>v|_=>.none))) U)
    (λe U=>bk (Md G.w) (A.deeper (cW d k.h.objs.size (G.X.jV j))) (oX (cW d k.h.objs.size (G.X.jV j)) e) (λι C=>O (.error e) C) (λe' C=>O (.error e') C) U) (sh G.b k₁)):
  dg (Md G.w) A (.call (.ref (G.X.jV j)) ⟨us,[]⟩) O (sh G.b k):=by
 refine ck λJ=>?_;obtain⟨o,d,F⟩:=H.fn j f hf;obtain⟨bs,W,L,M,hk⟩:=F.binds as re us k σ Q I S;refine J ?_;refine EM z (S.base _ _ F.at_) F.data (H.lim.keeps S.base) (F.code.keeps S.base) F.Ye W F.clo
  (λx a=>(hk x a).imp id λe=>⟨e,vX e _⟩) (λXQ I' =>?_) F.co F.gen F.kind
 have k₁:=I'.toInCall.keep;have cP:∀x∈cy (cW d k.h.objs.size (G.X.jV j)),k.h.get? x=aw:=by
  intro x a;rcases aG.mp a with rfl|a
  ·exact cO I'.toInCall.fresh
  ·obtain⟨p,hp,rfl⟩:=bF.mp a
   exact cO (bq I'.toInCall.fresh (nJ (I'.above p.1 p.2 hp)))
 have i:∀p∈(cW d k.h.objs.size (G.X.jV j)).cells,p.2∈cy (cW d k.h.objs.size (G.X.jV j)):=λp hp=>aK _ (cE (f:=(·.2)) hp);obtain⟨l,t,rfl⟩:=I'.toInCall.same;have g:Le k ⟨k.ρ,l,t⟩:=bY.old k₁;have R:cB G ⟨k.ρ,l,t⟩ (cW d k.h.objs.size (G.X.jV j)) f.sc re:=by
  refine⟨F.kind,F.glob,F.blt,λx kd e=>.inl (by rw[<-F.Ti,kO]at e;exact e),⟨_,I'.toInCall.ns,λx m v a Y D=>?_⟩,λp hp=>?_,λx m v a Y D=>?_,⟨(S.cP (cP _ ax)).1,(S.cP (cP _ ax)).2⟩,λp hp p' Z e=>?_,λx e=>vX e _,by unfold wR;refine(show(cW d k.h.objs.size (G.X.jV j)).scope.kind=.function from F.kind)▸?_;rfl⟩
  ·refine ck λJ=>?_
   obtain⟨u,P,I⟩:=L.find a Y;refine J ?_;exact⟨u,EO _ bs _ x u M P D,I.mono g NT.nil⟩
  ·exact⟨⟨_,I'.cell p.1 p.2 (sL (EN F.nodup (k.h.objs.size+1)) hp)⟩,(S.cP (cP _ (i p hp))).1,(S.cP (cP _ (i p hp))).2,nL (I'.above p.1 p.2 hp)⟩
  ·refine ck λJ=>?_
   obtain⟨u,P,I⟩:=L.find a Y;have N:d.scope.names.lookup x=aa .cell:=by
    rcases hk (x,u) P with e|e
    ·rcases D with q|q
     ·exact q
     ·have:aa dA=aa ff.local:=q.symm.trans e
      exact nomatch this
    ·exact e
   obtain⟨c,hc⟩:=fq.mp (vX (k:=k.h.objs.size+1) N);refine J ?_;refine⟨c,u,hc,?_,I.mono g NT.nil⟩;have:=I'.cell x c hc;rw[EP _ bs _ x u M P (by
    intro e;have e:d.scope.names.lookup x=aa .local:=e;rw[N]at e;exact nomatch e)]at this
   exact this
  ·obtain⟨x,c⟩:=p
   obtain⟨y,c'⟩:=p';have e:c=c' :=e;subst e;exact name_of_addr I'.apart hp Z
 exact h F g (S.keeps k₁) R cP
theorem Jz(H:qT G K T mm)(hf:T.fn j=aa f){c:aX->Rm (Fl×aX)}(hb:∀{o:Obj}{d:gU}{L:aB}{k₁:Kf}{re:aX}{σ:St},FnAt G j f o d->cB G k₁ (cW d L (G.X.jV j)) f.sc re->cU G n (cy (cW d L (G.X.jV j))) k₁ σ (c re) (RF G (cW d L (G.X.jV j)) f.sc) (eY f.body (cW d L (G.X.jV j))))(l:pj G k as us):Hc G (n+1) k σ (opt (hI f.params as f.lz) λre=>b8 (c re) yo) (.call (.ref (G.X.jV j)) ⟨us,[]⟩):=λv τ he S A Q RA q=>by
 induction e:hI f.params as f.lz with
 |none=>replace he:=e▸he;exact b6 he|some re=>
  replace he:=e▸he
  refine ck λm=>?_;obtain⟨p,b,y,e2⟩:=br he;refine m ?_;refine uJ H hf e l S (by have:=RA.depth;exact ri this) λ{o d k₁}F g i R cP=>?_
  have RD:el (A.deeper (cW d k.h.objs.size (G.X.jV j))) n:=RA.deep _;refine hb F R p b y i _ _ _ RD λz k' C t a=>?_;have x:Le k k' :=bY.drop g C cP;obtain⟨D,a⟩:=a;unfold yo at e2
  induction hp:p.1 with
  |next=>
   rw[hp]at e2 a;refine ck λm=>?_;obtain⟨rfl,rfl⟩:=av (af e2);have a:z=.next:=a;subst a;refine m ?_;exact q .none k' x t rfl
  |ret w=>
   rw[hp]at e2 a;obtain⟨rfl,rfl⟩:=av (af e2);obtain⟨u,rfl,l⟩:=a;exact q u k' x t l
theorem yU(H:qT G K T mm)(I:oF G r n)(m:mm<=n)(a:pj G k as us):Hc G (n+1) k σ (d' T r j as) (.call (.ref (G.X.jV j)) ⟨us,[]⟩):=λv τ he S A Q RA q=>by
 unfold d' M.Internal.alt at he
 induction o:T.Wc j as σ with
 |some p=>simp only[o]at he;obtain rfl:=af he;exact H.Wc a v τ o S A Q (RA.less (II m)) q|none=>
  rw[o]at he;have he:opt (T.fn j) (λf=>opt (hI f.params as f.lz) λre=>b8 (r.ex f.sc f.body re) yo) σ=aa (v,τ):=he
  induction hf:T.fn j with
  |none=>replace he:=hf▸he;exact b6 he|some f=>
   rw[hf]at he;exact Jz H hf (λι R=>I.ex R) a v τ (he:opt (hI f.params as f.lz) (λre=>b8 (r.ex f.sc f.body re) yo) σ=aa (v,τ)) S A Q RA q
end
section
variable{G:Gm}{K:jT}{T:Tab}{mm n:ae}{k:Kf}{σ:St}{r:Rec}{sc:Sc}{re:aX}{env:Env}{pos:Pos}{v a b:V}{u u1 u2:ag}
theorem Hc.call{code:ag}{c:Rm V}{us:ab ag}(h:Hc G n k σ c (.call code ⟨us,[]⟩)):aN G n k σ c (RV G) (call code us):=λv τ e S A Q E R q=>ib (h v τ e S A _ R λu k' l d r=>q u k' l d r)
theorem K3(B:∀k,G.X.Gd k=mr k)(c:RV G k a u1)(d:RV G k b u2):∀j,aN G 8 k σ (call2 j a b) (RV G) (call (mr j) [u1,u2])
 |3=>aN.eC (T:=λu=>call (.builtin "max") [u,u2]) c λx t1=>aN.eC (T:=λu=>call (.builtin "max") [.int x t1,u]) d λy t2=>aN.grown λA Q E R q S=>max_two_ints R.handled λh' tk f=>by
   have e:XF x y=if x<y then y else x:=by unfold XF;rw[rq];by_cases l:x<y<;>simp[l]
   rw[e]at q
   by_cases l:x<y
   ·rw[bc l]at q⊢;exact q _ _ _ f ⟨t2,rfl⟩
   ·rw[aU l]at q⊢;exact q _ _ _ f ⟨t1,rfl⟩
 |9=>aN.hH (T:=λu=>call (.builtin "isinstance") [u,u2]) c λl t=>aN.eB λg=>aN.leaf λA Q E R q=>by
   have hb:b=.bi 13:=by
    induction b using V.casesOn with
    |bi j=>exact aY V.bi (ay g)|_=>exact fT g
   clear g;subst hb;have e:u2=.type "str":=Eq.trans d (B 13);subst e;exact IsiPair.str_str (q _ k.tk rfl)
 |0|1|2|4|5|6|7|8=>aN.bW
 |h+10=>aN.bW
theorem K4(H:Wi G K)(c:pj G k as us):aN G 8 k σ (Ng j as) (RV G) (call (G.X.Gd j) us):=by
 refine(H.bi j)▸?_
 match as,c with
 |[],f=>exact aN.bW|[a],c=>obtain⟨u,rfl,d⟩:=one c.rep;exact KI H.mods d j|[a,b],c=>obtain⟨u1,u2,rfl,d,e⟩:=two c.rep;exact K3 H.bi d e j|_::_::_::_,_=>exact aN.bW
theorem Tj(H:qT G K T mm)(I:oF G r n)(J:mm<=n)(C:pj G k as us):aN G (n+2) k σ (XM T r c as) (RV G) (call (.ref (G.X.h_ c)) us):=
 aN.opt λf hf=>λx τ e S A Q E RA q=>by
  refine ck λt=>?_;obtain⟨a,w,e1,e2⟩:=br e;obtain⟨L,rfl,rfl⟩:=ox e1;obtain⟨D,j,e3,e4⟩:=br e2;have M:D=.none/\(V.a4 σ.n,j)=(x,τ):=by
   induction D using V.casesOn with
   |none=>exact⟨rfl,af e4⟩|_=>exact b6 e4
  clear e4;obtain⟨rfl,e5⟩:=M;obtain⟨rfl,rfl⟩:=av e5;obtain⟨N,O,P⟩:=H.makes c f hf;have y:=CH H.attr S;obtain⟨ρ,d,tk⟩:=k;refine t ?_;refine ib (GP (makes_of y N) (looks_findIn y O) (λself=>bind_fn y self P) (.inl rfl) ?_);have s:((d.push m_).push (qC (G.X.h_ c) d.objs.size)).get? d.objs.size=aa m_:=dt _ _ (bA _ rfl);have z:((d.push m_).push (qC (G.X.h_ c) d.objs.size)).get? (d.objs.size+1)=aa (qC (G.X.h_ c) d.objs.size):=by
   have:=bA (d.push m_) (o:=qC (G.X.h_ c) d.objs.size) rfl;rwa[Ca]at this
  refine ck λt=>?_;obtain⟨hp,m,i⟩:=h5.alloc S (p:=(d.objs.size+1,d.objs.size)) L (λb o e=>dt b o (dt b o e):∀b o,d.get? b=aa o->((d.push m_).push (qC (G.X.h_ c) d.objs.size)).get? b=aa o) (cO (fa _)) (cO (aF _)) ⟨_,z⟩ ⟨_,s⟩ (pC z λι ι q=>nomatch q) (pC s λι ι q=>nomatch q)
   (λg=>⟨df (z9 _),λι=>aw,z,⟨_,#[],0,s,rfl,aF _,bj _⟩,⟨_,#[],0,s,rfl,λι h=>by simp at h,λι=>rfl⟩,(λι ι e=>b6 e),λx k e=>rfl⟩)
  refine t ?_;refine yU H I J (k:=⟨_,_,tk⟩) (as:=.a4 σ.n::as) (us:=.ref (d.objs.size+1)::us) ⟨C.lst,_,us,rfl,⟨_,hp,rfl⟩,C.rep.mono i NT.nil⟩ _ _ e3 m (A.under (.builtin "type.__call__" ⟨.ref (G.X.h_ c)::us,[]⟩)) _ ?_ λu k' F R l=>?_
  ·have U:(kD "type.__call__" ⟨.ref (G.X.h_ c)::us,[]⟩).weight=1:=rfl
   have W:(kD "type.__call__" ⟨.ref (G.X.h_ c)::us,[]⟩).cUnits<=8:=by show(_:ae)<=8;exact bx rfl
   exact⟨RA.handled,by show A.depth+(kD "type.__call__" ⟨.ref (G.X.h_ c)::us,[]⟩).weight+(n+1)<_;rw[U];exact RA.one,RA.add (bq W (by decide))⟩
  ·have l:u=.none:=l
   subst l;exact⟨rfl,q _ k' (i.trans F) R ⟨_,F.get hp,rfl⟩⟩
theorem jx(h:fb (e::es')=aq):dm (e::es') env=(ai,cn e env)::dm es' env/\fb es' =aq:=by
 have h:cS (dU (isStar e)) (fb es') ai=aq:=h
 induction s:isStar e with
 |true=>rw[s]at h;exact fT h|false=>rw[s]at h;exact⟨(by rcases e<;>first|rfl|exact tF s),h⟩
theorem plain_any:∀{es:ab aQ},fb es=aq->((f6 pos (dm es env)).any (·.1))=ai/\((f6 pos (dm es env)).all (!·.1))=aq
 |[],a=>⟨rfl,rfl⟩|e::es,h=>by
  obtain⟨e1,h'⟩:=jx h;exact e1▸plain_any h'
theorem pG(I:gw G r n)(o:fb es=aq)(R:cB G k env sc re)(z:n<=m):CW G m k σ (te r sc re es) (λf first=>h7 pos f first (f6 pos (dm es env)) []):=λf first c C p x τ e S A Q E RA q=>by
 obtain⟨vs,d,e1,e2⟩:=br e;refine j3 (P:=Z8 G.X) (by rw[(plain_any o).1];rfl) C ?_
 induction es using a6 with
 |nil=>
  obtain⟨rfl,rfl⟩:=av (af e1);exact aT (Mt ⟨S.base,p [] σ [] k (Le.refl k) ⟨trivial,rfl⟩ x τ e2 S A Q E RA λy g i=>q y g i⟩)
 |cons e es=>
  have t:=rF (pos:=pos) I o R vs d e1 S A (λus s=>Z8 G.X s.heap/\bk (Md G.w) A (call f (first++us)) Q E s) E (RA.less z) λus k₁ l qU j=>⟨qU.base,p vs d us k₁ l j x τ e2 qU A Q E RA λy g i=>q y g (l.trans i)⟩
  rw[(jx o).1]at t⊢;exact jr (aI t (λus D h=>by exact⟨h.1,by exact h.2⟩) λι ι e=>e)
theorem Hf(h:fb es=aq)(l:bH es.length 30=aq):iE (es.length+0) (f6 pos (dm es env)) []=aq:=by
 unfold iE;rw[(plain_any h).2];have:es.length<30:=blt l;simp only[ab.all_nil,aE.and_true,aE.true_and,yk,AW,decide_eq_true_eq]
 omega
theorem Au(e:Ms o name env (cn o env)=cn o env)(m:iE (args.length+0) (f6 pos (dm args env)) []=aq)(i:(p.endLine==pos.line)=aq)(h:bk M A (cn o env) (λd c=>bk M A (dJ [d] (AZ aq o env d name)>>=λj=>h7 pos j.1 j.2 (f6 pos (dm args env)) []) Q E c) E s):
  bk M A (cn (.Call (.Attribute o name p) args [] pos) env) Q E s:=by
 simp only[arm_eval_Call,e];refine aj (aI h (λd c g=>aj (a8 ?_)) λι ι x=>x);show bk M A (do
  let (f,first)<-dJ [d] (AZ (iE (args.length+0) (f6 pos (dm args env)) []) o env d name)
  let l<-nu (iE (args.length+0) (f6 pos (dm args env)) []) o env p pos
  h7 l f first (f6 pos (dm args env)) []) Q E c
 refine m▸?_;have hp:nu aq o env p pos=pure pos:=by unfold nu;rw[i];rfl
 exact hp▸g
theorem aN.Tn{α d:Type}{rep:Kf->α->d->Prop}{t:Sem d}{f:ae->ae->aX->Rm α}(r:RV G k v u)(h:∀j c as p m od es ep,Jc G k σ j c as p m od es ep->u=.ref p.1->aN G n k σ (f j c as) rep t):aN G n k σ (M.Internal.o_ v f) rep t:=
 aN.G7 r λj o p L e=>match o,L with
  |.inst c as,⟨a,b,ne,m,g,⟨od,es,ep,i,l,q⟩,s,w,x⟩=>h j c as p m od es ep ⟨a,b,ne,g,i,l,q,s,w,x⟩ e|.list y,z|.jv A,C|.dict D E,F|.jg H,I=>aN.bW
theorem K5(H:qT G K T mm)(I:oF G r n)(U:mm<=n)(h8:8<=n){a:aQ}{name:Str}{x:ae}{es:ab aQ}{o:Pos}(Y:dU (uh a)=aq)(D:fA name=aa x)(F:fb es=aq)(Z:bH es.length 30=aq)(i:au o.endLine pos.line=aq)(R:cB G k env sc re):
  aN G (n+2) k σ (b8 (r.ev sc a re) λv=>D3 T r x v (te r sc re es)) (RV G) (cn (.Call (.Attribute a name o) es [] pos) env):=
 bG.sim (W:=λA Q E s=>bk (Md G.w) A (cn a env) (λt z=>bk (Md G.w) A (dJ [t] (AZ aq a env t name)>>=λO=>h7 pos O.1 O.2 (f6 pos (dm es env)) []) Q E z) E s)
  (bG.bind ((I.ev R).less (bp n 2)) λv L u k₁ l M=>aN.alt
   (aN.Tn M λj c as p m od es' ep J eu=>aN.opt λf hf=>λy τ e S A Q E RA q=>by
    subst eu;refine ck λkk=>?_;obtain⟨c1,c2,c3,c4,c5⟩:=H.D1 c x f name hf D;have g:m name=aw:=by
     have:=J.rep name x D
     induction e:c0 as x with
     |none=>rw[e]at this;exact this|some v=>have:=J.ok x v e;exact fT (c5.symm.trans this)
    refine kk ?_;refine aj (aP (show bk (Md G.w) A (sm (.ref p.1) name (do return (<-importBound a env).getD aq)) _ E (sh G.b k₁) from aT (method_fn (s:=sh G.b k₁) (CH H.attr S) J.inst c1 c2 c3 c4 (by unfold shadowIn;dsimp only;rw[Jo J.ns J.We,g];rfl) ?_)))
    exact pG I.togw F (R.mono l) (bp n 2) (.ref (G.X.jV f)) [.ref p.1] (λvs=>d' T r f (v::vs)) (H.Jy f) (λvs N us P C d=>((yU H I U (as:=v::vs) (us:=.ref p.1::us) ⟨d.lst,_,us,rfl,M.mono C NT.nil,d.rep⟩).call).less (fa _)) y τ e S A Q E RA q)
   (KU H.mods (t0:=λt=>dJ [t] (AZ aq a env t name)) (pl:=do return (<-importBound a env).getD aq) (λh=>aP h) D (pG I.togw F (R.mono l) (bp n 2)) (by lia) M))
  λA Q E ι h=>Au (Jx Y) (Hf F Z) (eF.mpr (ay i)) h
end
section
variable{G:Gm}{K:jT}{T:Tab}{mm n:ae}{k:Kf}{σ:St}{r:Rec}{sc:Sc}{re lK:aX}{env:Env}{pos:Pos}{v a b:V}{u u1 u2:ag}
theorem qV(e:ip sc x=aa m)(R:cB G k env sc re):fA x=aa m/\(env.kindOf x=aa .local\/env.kindOf x=aa .cell):=by
 unfold ip at e
 induction h:g_ sc x with
 |none=>exact b6 (h▸e)|some d=>
  rw[h]at e;rcases d
  case «local»=>rcases R.kinds x _ h with q|⟨q,_⟩;exact⟨e,.inl q⟩;exact nomatch q
  case cell=>rcases R.kinds x _ h with q|⟨q,_⟩;exact⟨e,.inr q⟩;exact nomatch q
  all_goals exact b6 e
theorem lL(W:xF env sc xs)(d:ip sc x=aa m)(R:cB G k env sc re)(f:RV G k v u):cU G n xs k σ (rt (jY re m v)) (RE G env sc) (fx (.Name x p) env u):=λa τ e S A Q E g q=>by
 have h:=(qV d R).2;refine Cu (A9 W.sub ((qV d R).1) ?_ R f a τ e S A Q E g q);rcases h with h|h
 ·exact .inl ⟨h,W.loc⟩
 ·rcases W.X7 with c|c
  ·exact nomatch (c x m d).symm.trans h
  ·exact .inr ⟨h,c⟩
theorem Oq(h:isSlice i=ai):Cq r sc (.Subscript o i p) v re=eB (dU (isSlice i)) (b8 (r.ev sc o re) λa=>b8 (r.ev sc i re) λk=>b8 (XD a k v) λι=>rt re):=by
 rcases i<;>first|rfl|exact tF h
def vY(d:Gm)(g:ae)(j:Kf)(s:St)(w:Rec)(y:Sc)(z:aX)(B:Env)(C:ag):Prop:=∀{K:jT}{v:V}(H:Wi d K)(I:gw d w g)(h:2<=g){t:aQ}(R:cB d j B y z)(c:RV d j v C),cU d g (cy B) j s (Cq w y t v z) (RE d B y) (fx t B C)
def Bc:=λx:((_×_)×_×_)×(_×_)×_×_×_=>vY x.1.1.1 x.1.1.2 x.1.2.1 x.1.2.2 x.2.1.1 x.2.1.2 x.2.2.1 x.2.2.2.1 x.2.2.2.2
def iV:=haveI:=Am;haveI:=Cv;haveI:=Gw;haveI:=aaA;qy bB Bc
namespace Bd
def d:=iV.1.1.1
def g:=iV.1.1.2
def j:=iV.1.2.1
def s:=iV.1.2.2
def w:=iV.2.1.1
def y:=iV.2.1.2
def z:=iV.2.2.1
def B:=iV.2.2.2.1
def C:=iV.2.2.2.2
theorem ok:vY d g j s w y z B C:=by
 intro K v H I h2 t R ru
 induction t using dz with
 |Name x p=>exact cU.opt λm hm=>lL xF.all hm R ru|Attribute o x p=>
  refine cU.opt λm hm a τ e S A Q E RA q=>?_;refine ck λX=>?_;obtain⟨v1,F,e1,e2⟩:=br e;obtain⟨_,J,e3,e4⟩:=br e2;obtain⟨rfl,rfl⟩:=av (af e4);refine X ?_;rw[DJ];refine aj (aP (I.ev R v1 F e1 S A _ E RA λu1 k₁ l L M=>?_));refine aj (a8 (aj (aP ((NX H.attr hm M (ru.mono l NT.nil)) () _ e3 L A _ E (RA.less h2) λι O W N ι=>?_))));exact aT<|wpAny_release' (q () O (l.trans W).wk N (R.mono (l.trans W)))
 |Subscript o i p=>
  induction hs:isSlice i with
  |false=>
   rw[Oq hs];refine cU.eB λι a τ e S A Q E RA q=>?_;refine ck λX=>?_;obtain⟨v1,F,e1,e⟩:=br e;obtain⟨v2,J,e2,e⟩:=br e;obtain⟨_,P,e3,e⟩:=br e
   cases e
   refine X ?_;rw[VQ];refine aj (aP (I.ev R v1 F e1 S A _ E RA λu1 k₁ l1 L M=>?_));refine aj (aP (I.ev (R.mono l1) v2 J e2 L A _ E RA λu2 O l2 N U=>?_));refine aj (a8 (aj (aP ((NV (M.mono l2 NT.nil) U (ru.mono (l1.trans l2) NT.nil)) () _ e3 N A _ E (RA.less h2) λι D l3 Hg ι=>?_))));have Y:=(l1.trans l2).trans l3;exact aT<|wpAny_release' (q () D Y.wk Hg (R.mono Y))
  |true=>
   induction i using dz with
   |Slice lo hi st p' =>
    induction st with
    |some b=>exact cU.bW|none=>
     intro a τ e S A Q E RA q;refine ck λX=>?_;obtain⟨v1,F,e1,e⟩:=br (c:=w.ev y o z) (f:=λa=>b8 (Sp w y z lo) λl=>b8 (Sp w y z hi) λh=>b8 (Nd a l h v) λι=>rt z) e;obtain⟨v2,J,e2,e⟩:=br e;obtain⟨v3,P,e3,e⟩:=br e;obtain⟨_,ad2,e4,e⟩:=br e
     cases e
     refine X ?_;rw[VQ];refine aj (aP (I.ev R v1 F e1 S A _ E RA λu1 k₁ l1 L M=>?_));refine aj (aP (vI ?_));refine x8 I (R.mono l1) v2 J e2 L A _ E RA λu2 O l2 N U=>?_;refine x8 I (R.mono (l1.trans l2)) v3 P e3 N A _ E RA λu3 D l3 Hg Z=>?_;refine aO (aj (a8 (aj (aP ?_))));have l4:Le D ⟨D.ρ,D.h.push {cls:=.type "slice",data:=.fields #[u2,u3,.none]},D.tk⟩:=bY.old dt;refine KG (k:=⟨D.ρ,_,D.tk⟩) (Ag _ _ _ _) (M.mono ((l2.trans l3).trans l4) NT.nil) (U.mono (l3.trans l4) NT.nil) (Z.mono l4 NT.nil) (ru.mono (((l1.trans l2).trans l3).trans l4) NT.nil) () _ e4 (Hg.keeps dt) A _ E (RA.less h2) λι aaP l5 Yf ι=>?_;have Y:=(((l1.trans l2).trans l3).trans l4).trans l5;exact aT<|wpAny_release' (q () aaP Y.wk Yf (R.mono Y))
   |_=>exact fT hs
 |_=>exact cU.bW
end Bd
theorem ER:vY G n k σ r sc re env u:=@d5 _ _ Bc @Bd.ok (((G,n),k,σ),(r,sc),re,env,u)
theorem p3(h:isStar t=ai):hX (t::ts) env=(ai,fx t env)::hX ts env:=by rcases t<;>first|rfl|exact tF h
theorem K6(e:Cq r sc t v re σ=aa (p,τ)):isStar t=ai:=by rcases t<;>first|rfl|exact b6 e
theorem Ot:∀{l:V}{re lK:aX}{σ τ:St},Ak r sc ts l re σ=aa (lK,τ)->il l=ts.length/\hX ts env=ts.map λt=>(ai,fx t env):=by
 induction ts with
 |nil=>
  intro l re lK σ τ e
  induction l using V.casesOn with
  |nil=>exact⟨rfl,rfl⟩|_=>exact b6 e
 |cons t ts i=>
  intro l re lK σ τ e
  induction l using V.casesOn with
  |cons a q=>
   refine ck λg=>?_;obtain⟨p,d,e1,e2⟩:=br (c:=Cq r sc t a re) (f:=λre1=>Ak r sc ts q re1) e;obtain⟨h,j⟩:=i e2;refine g ?_;exact⟨aY ar h,by rw[p3 (K6 e1),j];rfl⟩
  |_=>exact b6 e
theorem Ou(H:Wi G K)(I:gw G r n)(F:2<=n):∀{l:V}{us:ab ag}{re:aX}{k:Kf}{σ:St},cB G k env sc re->RL G k l us->cU G n (cy env) k σ (Ak r sc ts l re) (RE G env sc) (gD (ts.map λt=>fx t env) us):=by
 induction ts with
 |nil=>
  intro l us re k σ R z a τ e S A Q E C q
  induction l using V.casesOn with
  |nil=>
   refine ck λD=>?_;obtain⟨rfl,rfl⟩:=av (af e);refine D ?_;exact(show us=[] from z.rep)▸aO (q () k (bY.refl _ _ _) S R)
  |_=>exact b6 e
 |cons t ts J=>
  intro l us re k σ R z a τ e S A Q E C q
  induction l using V.casesOn with
  |cons x l=>
   refine ck λD=>?_;obtain⟨p,d,e1,e2⟩:=br (c:=Cq r sc t x re) (f:=λre1=>Ak r sc ts l re1) e;obtain⟨u,h,rfl,L,M⟩:=z.rep;refine D ?_;show bk _ _ (do dJ h (fx t env u);gD (ts.map λt=>fx t env) h) _ _ _
   refine aj (aP (ER H I F R L p d e1 S A _ E C λι k₁ g i j=>?_));exact J (l:=l) j ⟨z.lst,Rep.mono g R.nt M⟩ a τ e2 i A Q E C λy m o=>q y m (g.trans o)
  |_=>exact b6 e
theorem Ov{c:Rm aX}(C:RV G k (.tup a) u)(D:∀τ lK,c σ=aa (lK,τ)->il a=ts.length/\hX ts env=ts.map λt=>(ai,fx t env))(h:∀k' us,Le k k'->RL G k' a us->cU G n xs k' σ c (RE G env sc) (gD (ts.map λt=>fx t env) us)):cU G n xs k σ c (RE G env sc) (fx (.Tuple ts j p) env u):=λx τ e S A Q E RA q=>by
 refine ck λF=>?_;obtain⟨ad,us,rfl,H,J,d,z⟩:=C;obtain⟨len,i⟩:=D τ x e;have l1:=hA (G:=G) (k:=k) ⟨d,z⟩;refine F ?_;refine vJ (items:=us.toArray) RA.handled H (by simp only[i,a7,b9];lia) (by
  rw[i,DG];intro x I;obtain⟨t,_,rfl⟩:=bF.mp I;rfl) λh' m=>?_
 have k' :∀b o,k.h.get? b=aa o->h'.get? b=aa o:=λb o e=>m b o (df (eG e)) e;rw[i,fz];have l:Le k ⟨k.ρ,h',k.tk⟩:=bY.old k';exact h ⟨k.ρ,h',k.tk⟩ us l ⟨d,Rep.mono l NT.nil z⟩ x τ e (S.keeps k') A Q E RA λy f g=>q y f (l.wk.trans g)
theorem To(h:∀ts j p,t≠.Tuple ts j p):ui r sc t v re=Cq r sc t v re:=by rcases t<;>first|rfl|exact er rfl (h _ _ _)
theorem ES(H:Wi G K)(I:gw G r n)(d:2<=n)(R:cB G k env sc re)(f:RV G k v u):cU G n (cy env) k σ (ui r sc t v re) (RE G env sc) (fx t env u):=by
 by_cases h:∃ts j p,t=.Tuple ts j p
 ·obtain⟨ts,j,p,rfl⟩:=h
  induction v using V.casesOn with
  |tup l=>exact Ov (c:=Ak r sc ts l re) f (λτ lK e=>Ot e) λk' us l g=>Ou H I d (R.mono l) g|_=>exact cU.bW
 ·rw[To λts j p e=>h ⟨ts,j,p,e⟩]
  exact ER H I d R f
theorem rG{α c:Type}{f:α->ao c}{a:α}{l:ab α}{q:ab c}(e:Cj f (a::l)=aa q):∃b t,f a=aa b/\Cj f l=aa t/\q=b::t:=by
 obtain⟨b,h,e⟩:=aeC (o:=f a) (f:=λb=>aeF (Cj f l) λq=>aa (b::q)) e;obtain⟨t,d,e⟩:=aeC (o:=Cj f l) (f:=λq=>aa (b::q)) e;exact⟨b,t,h,d,(af e).symm⟩
theorem K7{es:ab aQ}:∀{xs:ab ae}{l:V}{re lK:aX},Cj (ug sc) es=aa xs->bindG xs l re=aa lK->il l=es.length/\hX es env=es.map λt=>(ai,fx t env):=by
 induction es with
 |nil=>
  intro xs l re lK h hb;obtain rfl:=af h
  induction l using V.casesOn with
  |nil=>exact⟨rfl,rfl⟩|_=>exact b6 hb
 |cons e es i=>
  intro xs l re lK h hb;obtain⟨x,c,d,f,rfl⟩:=rG h
  induction l using V.casesOn with
  |cons a l=>
   obtain⟨i1,i2⟩:=i f (show bindG c l (jY re x a)=aa lK from hb)
   exact⟨aY ar i1,by rw[p3 (by rcases e<;>first|rfl|exact b6 d),i2];rfl⟩
  |_=>exact b6 hb
theorem CT(h:ug sc e=aa x):∃y p,e=.Name y p/\ip sc y=aa x:=
 have h:=Js h
 wo (motive_1:=λe=>ip sc (nmX e)=aa x->∃y p,e=.Name y p/\ip sc y=aa x) e (ay h.1) (λy p h=>⟨y,p,rfl,h⟩) h.2
theorem K8{ws:ab aB}(W:xF env sc ws){es:ab aQ}:∀{xs:ab ae}{l:V}{us:ab ag}{re lK:aX}{k:Kf},Cj (ug sc) es=aa xs->bindG xs l re=aa lK->cB G k env sc re->RL G k l us->
  cU G n ws k σ (rt lK) (RE G env sc) (gD (es.map λt=>fx t env) us):=by
 induction es with
 |nil=>
  intro xs l us re lK k m hb R j;obtain rfl:=af m
  induction l using V.casesOn with
  |nil=>
   cases show aa re=aa lK from hb
   exact(show us=[] from j.rep)▸cU.pure (rep:=RE G env sc) R
  |_=>exact b6 hb
 |cons e es H=>
  intro xs l us re lK k m hb R j;refine ck λo=>?_;obtain⟨x,C,D,I,rfl⟩:=rG m;clear m;obtain⟨y,p,rfl,D⟩:=CT D;refine o ?_;exfalso
  induction l using V.casesOn with
  |cons a l=>
   refine ck λo=>?_;obtain⟨u,c,rfl,J,L⟩:=j.rep;refine o ?_;intro z τ e S A Q E F q;show bk _ _ (do dJ c (fx (.Name y p) env u);gD (es.map λt=>fx t env) c) _ _ _
   exact aj (aP (lL W (σ:=σ) (n:=n) (p:=p) D R J _ σ rfl S A _ E F λι k₁ g d f=>
    H (l:=l) I (show bindG C l (jY re x a)=aa lK from hb) f ⟨j.lst,Rep.mono g (λa M=>R.nt a (W.sub a M)) L⟩ z τ e d A Q E F λy h i=>q y h (g.trans i)))
  |_=>exact b6 hb
def TgI(sc:Sc)(t:aQ)(xs:ab ae):Prop:=(∃x p m,t=.Name x p/\ip sc x=aa m/\xs=[m])\/∃a b es j p,t=.Tuple (a::b::es) j p/\Cj (ug sc) (a::b::es)=aa xs
theorem ET(h:dr sc t=aa xs):TgI sc t xs:=by
 unfold dr onE at h
 induction c:au t.ctorIdx 23 with
 |true=>
  rw[c]at h;refine wo (motive_1:=λt=>tgN (ip sc (nmX t))=aa xs->TgI sc t xs) t (ay c) (λx p h=>?_) h
  replace h:tgN (ip sc x)=aa xs:=h
  induction d:ip sc x with
  |none=>rw[d]at h;exact b6 h|some m=>rw[d]at h;exact .inl ⟨x,p,m,rfl,d,(af h).symm⟩
 |false=>
  rw[c]at h;have h:=Js h;refine aQ.Tuple.elim (motive_1:=λt=>tgT (aem t) (Cj (ug sc) (aem t))=aa xs->TgI sc t xs) t (ay h.1) (λl j p h=>?_) h.2
  induction l using a6 with
  |nil=>exact b6 h|cons a l=>
   induction l using a6 with
   |nil=>exact b6 h|cons b es=>exact .inr ⟨a,b,es,j,p,rfl,h⟩
theorem EU{ws:ab aB}(W:xF env sc ws){t:aQ}{xs:ab ae}(f:dr sc t=aa xs)(hb:Np xs v re=aa lK)(R:cB G k env sc re)(d:RV G k v u):cU G n ws k σ (rt lK) (RE G env sc) (fx t env u):=by
 rcases ET f with⟨x,p,m,rfl,g,rfl⟩|⟨a,b,es,j,p,rfl,h⟩
 ·cases show aa (jY re m v)=aa lK from hb
  exact lL W g R d
 ·refine ck λi=>?_
  obtain⟨x1,y,z,o,rfl⟩:=rG h;obtain⟨C,D,E,F,rfl⟩:=rG o;refine i ?_
  induction v using V.casesOn with
  |tup l=>exact Ov (c:=rt lK) d (λτ lK e=>K7 h hb) λk' us l q=>K8 W h hb (R.mono l) q|_=>exact b6 hb
theorem bY.iter{xs:ab aB}{d ρ:fO}{c h h' :bJ}{wr:ab aB}(g:bY d c ρ h xs)(k:∀b o,b∉wr->h.get? b=aa o->h'.get? b=aa o)(cP:∀a∈wr,c.get? a=aw):bY d c ρ h' xs:=
 have f:∀{b o},c.get? b=aa o->b∉wr:=λe q=>b6 ((cP _ q).symm.trans e)
 ⟨g.pre,λb o e n x=>k b o (f e) (g.mq b o e n x),λb o e=>let ⟨o',i⟩:=g.live b o e;⟨o',k b o' (f e) i⟩⟩
theorem vZ{wr:ab aB}{h' :bJ}{tk:ae}(S:SR G k σ)(R:cB G k env sc re)(d:∀b o,b∉wr->k.h.get? b=aa o->h'.get? b=aa o)(off:∀a∈wr,OffI G.X k.ρ k.h a):SR G ⟨k.ρ,h',tk⟩ σ/\cB G ⟨k.ρ,h',tk⟩ env sc re:=by
 have nf:∀a∈cy env,a∉wr:=λa g q=>(off a q).nf (R.sa a g);have mono:∀{x:V}{v:ag}{vs:ab ag},Rep G.X k.ρ k.h x v vs->Rep G.X k.ρ h' x v vs:=λr=>r.but d λa us g=>(off a g).nt us;have L:∀{p:aB×aB},p∈k.ρ->(∀x,k.h.get? p.1=aa x->h'.get? p.1=aa x)/\∀x,k.h.get? p.2=aa x->h'.get? p.2=aa x:=λhp=>
  ⟨λx e=>d _ x (λq=>(off _ q).adr (.inr ⟨_,hp,.inl rfl⟩)) e,λx e=>d _ x (λq=>(off _ q).adr (.inr ⟨_,hp,.inr rfl⟩)) e⟩
 obtain⟨m,l,y⟩:=R.ns;have C:∀p∈env.cells,p.2∉wr:=λp hp=>nf _ (aK _ (cE (f:=(·.2)) hp));refine⟨(S.moved (λb o e=>d b o (λq=>b6 ((off b q).h0.symm.trans e)) (S.base b o e)) (λp hp=>L hp) mono λb o e c=>d b o (λq=>(off b q).nf ⟨o,e,.inr (.inr (.inr c))⟩) e:SR G ⟨k.ρ,h',tk⟩ σ),⟨R.kind,R.glob,R.blt,R.kinds,⟨m,l.at' λo e=>d _ o (nf _ ax:env.locals∉wr) e,λx n v a b c=>?_⟩,λp hp=>?_,λx n v a b c=>?_,R.off,R.apart,R.has,R.norm⟩⟩
 ·refine ck λd=>?_
  obtain⟨u,z,r⟩:=y x n v a b c;refine d ?_;exact⟨u,z,mono r⟩
 ·obtain⟨⟨v,o,i,j⟩,a,b,c⟩:=R.cells p hp
  exact⟨⟨v,o,d _ o (C p hp) i,j⟩,a,b,c⟩
 ·obtain⟨c,u,e,⟨o,i,j⟩,r⟩:=R.qR x n v a b c
  exact⟨c,u,e,⟨o,d _ o (C (x,c) (mem_of_lookup e)) i,j⟩,mono r⟩
theorem tE(h:d9 xs i v re=aa lK):Np xs v re=aa lK/\∀n k,i=.RK n k->∀x,xs≠[x]:=by
 induction i with
 |RK n k=>
  induction xs using a6 with
  |nil=>exact⟨h,λι ι ι ι e=>nomatch e⟩|cons x r=>
   induction r using a6 with
   |nil=>exact b6 h|cons=>exact⟨h,λι ι ι ι e=>nomatch e⟩
 |_=>exact⟨h,λι ι e=>nomatch e⟩
theorem yV(h:dr sc t=aa xs)(ne:∀x,xs≠[x]):∃es k p,t=.Tuple es k p:=by
 rcases ET h with⟨x,p,m,rfl,_,rfl⟩|⟨a,b,es,j,p,rfl,_⟩
 ·exact er rfl (ne m)
 ·exact⟨_,_,_,rfl⟩
theorem uK{α:Type}{i:It}{z:Rm α}{f:V->It->Rm α}{p:α×St}(e:Aa i z f σ=aa p):(fP σ i=aa aw/\z σ=aa p)\/∃v j,fP σ i=aa (aa (v,j))/\f v j σ=aa p:=by
 unfold Aa at e
 induction h:fP σ i with
 |none=>exact b6 (h▸e)|some o=>
  replace e:=h▸e
  induction o with
  |none=>exact .inl ⟨rfl,e⟩|some q=>exact .inr ⟨q.1,q.2,rfl,e⟩
section
variable{w:bU}{A:aW}{s:ah}
def Yg(w:bU)(A:aW)(c:F7)(R:c8->ah->Prop)(f:tT)(s:ah):Prop:=tT.casesOn f (dg (Md w) A c R s) (R (.ok .next) s) (dg (Md w) A c R s) λv=>R (.ok (.ret v)) s
def EV(w:bU)(A:aW)(env:Env)(R:c8->ah->Prop):ag->ah->Prop:=lE (Md w) A env λe c=>R (.error e) c
def v7(e:Env)(c:bU)(d:aW)(t:aQ)(i:ag)(o:ab cF)(R:c8->ah->Prop):Prop:=∀{s:ah}(turn:bk (Md c) d (Rj i) (λr f=>bl (R (.ok .next) f) (λv=>bk (Md c) d (ot t i v) (λι f=>bk (Md c) d (fx t e v) (λι=>bk (Md c) d (eY o e) (Yg c d (.forLoop t i o [] e) R) (EV c d e R)) (EV c d e R) f) (EV c d e R) f) r) (EV c d e R) s),dg (Md c) d (.forLoop t i o [] e) R s
def Be:=λx:(_×_×_)×(_×_)×_×_=>v7 x.1.1 x.1.2.1 x.1.2.2 x.2.1.1 x.2.1.2 x.2.2.1 x.2.2.2
def kP:=haveI:=iG;haveI:=eI;qy bB Be
namespace Bf
def e:=kP.1.1
def c:=kP.1.2.1
def d:=kP.1.2.2
def t:=kP.2.1.1
def i:=kP.2.1.2
def o:=kP.2.2.1
def R:=kP.2.2.2
theorem ok:v7 e c d t i o R:=by
 intro s turn;refine dN rfl ?_;show bk _ d ((forTurn t i o [] e).onRaise (λx=>do i9 x e;oq x)) _ _ s
 refine rm ?_;refine aj (a8 (aj (jF (aI turn (λr j h=>?_) λι ι h' =>a8 h'))))
 induction r with
 |none=>exact aO ⟨rfl,Ea (gQ h)⟩|some v=>
  refine aj (aI h (λι j h=>?_) λι ι h' =>h');refine aj (aI h (λι m l=>aj (aI l (λf p g=>?_) λι ι h' =>h')) λι ι h' =>h')
  induction f with
  |next=>exact aO ⟨rfl,g⟩|cont=>exact aO ⟨rfl,g⟩|brk=>exact aO g|ret v=>exact aO g
end Bf
theorem EW:v7 env w A t it body R:=@d5 _ _ Be @Bf.ok ((env,w,A),(t,it),body,R)
theorem Hh{R:c8->ah->Prop}(turn:bk (Md w) A (isTrue e env (cn e env)) (λb c=>cS b (bk (Md w) A (eY body env) (Yg w A (.whileLoop e body [] env) R) (EV w A env R) c) (R (.ok .next) c)) (EV w A env R) s):dg (Md w) A (.whileLoop e body [] env) R s:=by
 refine dN rfl ?_;show bk _ A ((whileTurn e body [] env).onRaise (λx=>do i9 x env;oq x)) _ _ s
 refine rm ?_;refine aj (aI turn (λb c d=>?_) λι ι h' =>h')
 induction b with
 |false=>exact aj (gQ (aO d))|true=>
  refine aj (aI d (λf g h=>?_) λι ι h' =>h')
  induction f with
  |next=>exact aO ⟨rfl,h⟩|cont=>exact aO ⟨rfl,h⟩|brk=>exact aO h|ret v=>exact aO h
end
section
variable{t:aQ}{xs:ab ae}{body:ab cF}{I0:aB}{wr:ab aB}{CS:fO->bJ->It->Prop}{CR:ag->fO->bJ->It->Prop}{k0:Kf}{A:aW}{Q:c8->ah->Prop}
theorem yW(N:1<=n)(J:dr sc t=aa xs)(IO:pD G.X G.w I0 wr CS CR)(cP:∀a∈wr,k0.h.get? a=aw){i j:It}{v:V}{d:aX}(R:cB G k env sc re)(st:CS k.ρ k.h i)(O:bY k0.ρ k0.h k.ρ k.h (cy env))(P:fP σ i=aa (aa (v,j)))(hb:d9 xs j v re=aa d)(S:SR G k σ)(RA:el A n)(go:∀c,CS c.ρ c.h j->bY k0.ρ k0.h c.ρ c.h (cy env)->SR G c σ->cB G c env sc d->bk (Md G.w) A (eY body env) (Yg G.w A (.forLoop t (.ref I0) body [] env) Q) (EV G.w A env Q) (sh G.b c)):
  dg (Md G.w) A (.forLoop t (.ref I0) body [] env) Q (sh G.b k):=by
 refine ck λD=>?_;obtain⟨E,F⟩:=tE hb;refine D ?_;refine EW (IO.next st S P (RA.less N) λu L f m H U I=>?_);refine IO.go I U (λn k e=>yV J (F n k e)) λg p q x=>?_;have D:∀b o,b∉wr->k.h.get? b=aa o->g.get? b=aa o:=λb o M e=>p b o M (m b o M e);obtain⟨y,CU⟩:=vZ (tk:=f) S R D (IO.off st);exact EU xF.all (k:=⟨k.ρ,g,f⟩) J E CU q _ σ rfl y A _ _ RA λι c l z C=>go c (IO.frame x l CU.sa) ((O.iter D cP).trans l) z C
theorem Ow(I:∀{re:aX}{k:Kf}{σ:St},cB G k env sc re->cU G n (cy env) k σ (r.ex sc body re) (RF G env sc) (eY body env))(M:1<=n)(O:dr sc t=aa xs)(IO:pD G.X G.w I0 wr CS CR)(cP:∀a∈wr,k0.h.get? a=aw)(m:ae):
  ∀{i:It}{re:aX}{k:Kf}{σ:St},cB G k env sc re->CS k.ρ k.h i->bY k0.ρ k0.h k.ρ k.h (cy env)->∀p τ,h6 r sc xs body m i re σ=aa (p,τ)->SR G k σ->∀A(Q:c8->ah->Prop),el A n->
   (∀f k',bY k0.ρ k0.h k'.ρ k'.h (cy env)->SR G k' τ->RF G env sc k' p f->Q (.ok f) (sh G.b k'))->dg (Md G.w) A (.forLoop t (.ref I0) body [] env) Q (sh G.b k):=by
 induction m with
 |zero=>intro i re k σ R st E p τ e;exact b6 e|succ m P=>
  intro i re k σ R st E p τ e S A Q RA q;rcases uK (z:=rt (Fl.next,re)) (f:=λv j=>opt (d9 xs j v re) λre1=>b8 (r.ex sc body re1) λp=>gP p (h6 r sc xs body m j)) e with⟨F,U⟩|⟨v,j,F,H⟩
  ·clear e
   refine ck λc=>?_;obtain⟨rfl,rfl⟩:=av (af U);refine c ?_;refine EW (IO.next st S F (RA.less M) λh' tk c=>?_);obtain⟨W,Y⟩:=vZ (tk:=tk) S R c (IO.off st);exact q .next ⟨k.ρ,h',tk⟩ (E.iter c cP) W ⟨Y,rfl⟩
  ·refine ck λc=>?_
   obtain⟨J,hb,H⟩:=lb H;obtain⟨⟨Z,L⟩,o,e1,e2⟩:=br H;refine c ?_;refine yW M O IO cP R st E F hb S RA λN x d y yX=>I yX _ o e1 y A _ _ RA λf C g l D=>?_
   induction Z with
   |next=>
    exact(show f=.next from D.2)▸P D.1 (IO.frame x g yX.sa) (d.trans g) p τ e2 l A Q RA q
   |ret v=>
    refine ck λc=>?_;obtain⟨rfl,rfl⟩:=av (af e2);obtain⟨u,rfl,ru⟩:=D.2;refine c ?_;exact q (.ret u) C (d.trans g) l D
end
theorem Yh(I:oF G r n){k0:Kf}(m:ae):
  ∀{re:aX}{k:Kf}{σ:St},cB G k env sc re->bY k0.ρ k0.h k.ρ k.h (cy env)->∀p τ,I5 r sc c body m re σ=aa (p,τ)->SR G k σ->∀A(Q:c8->ah->Prop),el A n->
   (∀f k',bY k0.ρ k0.h k'.ρ k'.h (cy env)->SR G k' τ->RF G env sc k' p f->Q (.ok f) (sh G.b k'))->dg (Md G.w) A (.whileLoop c body [] env) Q (sh G.b k):=by
 induction m with
 |zero=>intro re k σ R z p τ e;exact b6 e|succ m F=>
  intro re k σ R z p τ e S A Q D q;refine ck λj=>?_;obtain⟨t,o,e1,e2⟩:=br (f:=λt=>cS t (b8 (r.ex sc body re) λp=>gP p (I5 r sc c body m)) (rt (Fl.next,re))) e;refine j ?_;refine Hh (I.tr R t o e1 S A _ _ D λL k₁ l d H=>?_);clear e;clear e1;subst H
  induction t with
  |false=>
   refine ck λj=>?_;obtain⟨rfl,rfl⟩:=av (af e2);refine j ?_;exact q .next k₁ (z.trans l.wk) d ⟨R.mono l,rfl⟩
  |true=>
   refine ck λj=>?_;obtain⟨⟨J,E⟩,x,e3,e4⟩:=br (f:=λp=>gP p (I5 r sc c body m)) e2;refine j ?_;refine I.ex (R.mono l) _ x e3 d A _ _ D λf y g i C=>?_
   induction J with
   |next=>
    exact(show f=.next from C.2)▸F C.1 ((z.trans l.wk).trans g) p τ e4 i A Q D q
   |ret v=>
    refine ck λj=>?_;obtain⟨rfl,rfl⟩:=av (af e4);obtain⟨u,rfl,M⟩:=C.2;refine j ?_;exact q (.ret u) y ((z.trans l.wk).trans g) i C
end
section
open PySem.SeqAt
section
variable{G:Gm}{n:ae}{k:Kf}{σ:St}{a b v:V}{u u1 u2:ag}
section
variable{α β γ:Type}{c:Rm α}{rep:Kf->α->β->Prop}{W:WP β}{as:ab V}{us:ab ag}
theorem bG.bW:bG G n k σ (bW:Rm α) rep W:=λι ι e=>b6 e
theorem bG.opt{f:γ->Rm α}(h:∀x,o=aa x->bG G n k σ (f x) rep W):bG G n k σ (M.Internal.opt o f) rep W:=by
 induction o with
 |none=>exact bG.bW|some x=>exact h x rfl
theorem bG.ow{f:V->Rm α}(r:pj G k as us)(h:∀a u,us=[u]->RV G k a u->bG G n k σ (f a) rep W):bG G n k σ (M.Internal.ow as f) rep W:=match as,r with
 |[],b=>bG.bW|[a],r=>have ⟨u,e,d⟩:=one r.rep;h a u e d|_::_::_,_=>bG.bW
theorem bG.ue{f:V->V->Rm α}(r:pj G k as us)(h:∀a b u1 u2,us=[u1,u2]->RV G k a u1->RV G k b u2->bG G n k σ (f a b) rep W):bG G n k σ (M.Internal.ue as f) rep W:=match as,r with
 |[],c=>bG.bW|[c],i=>bG.bW|[a,b],r=>have ⟨u1,u2,e,d,g⟩:=two r.rep;h a b u1 u2 e d g|_::_::_::_,_=>bG.bW
theorem bG.cb{f:ae->V->Rm α}(r:RV G k v u)(h:∀j l p vs c,LstAt G k σ j l p vs c->u=.ref p.1->bG G n k σ (f j l) rep W):bG G n k σ (M.Internal.cb v f) rep W:=by
 induction v using V.casesOn with
 |a4 j=>
  refine ck λd=>?_;obtain⟨p,hp,e0⟩:=r;refine d ?_;intro a τ e S;have e:@bl MO (λι=>ao (α×St)) aw (λo=>MO.casesOn (motive:=λι=>Rm α) o (f j) (λι ι=>M.Internal.bW) (λι ι=>M.Internal.bW) (λι=>M.Internal.bW) (λι=>M.Internal.bW) σ) (σ.t.get j)=aa (a,τ):=e
  induction q:σ.t.get j with
  |none=>exact b6 (q▸e)|some o=>
   rw[q]at e
   induction o with
   |list l=>
    refine ck λd=>?_;obtain⟨m,g,e2,vs,c,z,i,y,r⟩:=S.objs j _ q;obtain rfl:=af (hp.symm.trans g);refine d ?_;exact h j l p vs c ⟨q,hp,e2,z,i,y,r⟩ e0 a τ e S
   |_=>exact b6 e
 |_=>exact bG.bW
theorem bG.ei{f:ae->Rm α}(r:RV G k v u)(h:∀i t,u=.int (.ofNat i) t->bG G n k σ (f i) rep W):bG G n k σ (M.Internal.ei v f) rep W:=by
 induction v using V.casesOn with
 |int i=>
  induction i with
  |ofNat i=>obtain⟨t,e⟩:=r;exact h i t e|negSucc a=>exact bG.bW
 |_=>exact bG.bW
theorem bG.it{W:WP ag}(h:∀A Q E,el A n->SR G k σ->N4 G.X G.w k.ρ (sh G.b k) i Q->W A Q E (sh G.b k)):bG G n k σ (M.Internal.rt i) (RI G k) W:=λx τ e S A Q E R q=>by
 refine ck λd=>?_;obtain⟨rfl,rfl⟩:=av (af e);refine d ?_;exact h A Q E R S λI wr t M h' tk K d st cP=>q (.ref I) ⟨k.ρ,h',tk⟩ (bY.old d) (S.keeps d) ⟨I,wr,t,M,rfl,K,st,cP⟩
end
def v8(d:Gm)(f:Kf)(i:St):Prop:=∀(B:∀f,d.X.Gd f=mr f){j:ae}{as:ab V}{us:ab ag}(r:pj d f as us),bG d 8 f i (Nl j as) (RI d f) (λA Q E s=>bk (Md d.w) A (call (d.X.Gd j) us) (λx e=>bk (Md d.w) A (kY x) Q E e) E s)
def Bg:=λx:_×_×_=>v8 x.1 x.2.1 x.2.2
def v_:=haveI:=Am;haveI:=Cv;haveI:=Gw;qy bB Bg
namespace Bh
def d:=v_.1
def f:=v_.2.1
def i:=v_.2.2
theorem ok:v8 d f i:=by
 intro B j as us r;rw[B j]
 match j with
 |10=>
  exact bG.ow r λa u e y=>by
   subst e;refine bG.cb y λj l p vs c L w=>?_;subst w;exact bG.it λA Q E R S q=>aT (call_enumerate_1 L.obj λh' J x hsz z=>aT (wpAny_pyIter_enum J (by
    refine q _ _ _ _ h' f.tk (Td (f.h.objs.size+1) f.h.objs.size) z (N_.mk (k:=0) L.sC ⟨_,J⟩ x ((λm=>df (qu (k9 m)):∀m,f.h.objs.size≠f.h.objs.size+(m+1)) 0).symm (S.over 1).1 (S.over 1).2 (S.over 0).1 (S.over 0).2) (pE (cO (bp _ _)) (cO (aF _))))))
 |11=>
  exact bG.ue r λa b u1 u2 e y O=>by
   subst e;refine bG.cb y λj l p vs c L w=>?_;subst w;refine bG.opt λt ht=>bG.eB λg=>bG.cb O λj2 l2 p2 vs2 c2 L2 C=>?_;subst C;exact bG.it λA Q E R S q=>
    aT (call_zip_2 (du L.obj) (du L2.obj) λh' D T P x N hsz z=>aT (wpAny_pyIter_zip D (by
     refine q _ _ _ _ h' f.tk (Yc (f.h.objs.size+4) (f.h.objs.size+2) (f.h.objs.size+3) f.h.objs.size (f.h.objs.size+1)) z
      (Yb.mk L.sC D T x ((λm=>df (qu (k9 m)):∀m,f.h.objs.size≠f.h.objs.size+(m+1)) 3) (S.over 4).1 (S.over 4).2 (S.over 0).1 (S.over 0).2 (S.over 2).1) (pE (cO (bp _ _)) (cO (aF _))))))
 |12=>
  exact bG.ow r λa u e y=>by
   subst e;refine bG.ei y λm t F=>?_;subst F;exact bG.eB λU=>bG.it λA Q E R S q=>aT (call_range_1 (by
    obtain⟨X,sz⟩:=EG (ble U);have Y:IsRange (f.h.push {cls:=.type "range",data:=.fields #[.int 0 f.tk,.int (cR m) t,.int 1 (f.tk+1)]}) f.h.objs.size 0 (m:Int) 1 f.tk t (f.tk+1):=bA _ rfl;refine aT (wpAny_pyIter_range (s:={sh d.b f with heap:=f.h.push {cls:=.type "range",data:=.fields #[.int 0 f.tk,.int (cR m) t,.int 1 (f.tk+1)]},toks:=f.tk+1+1}) Y X ?_)
    rw[sz];refine One.new (s:={sh d.b f with heap:=f.h.push {cls:=.type "range",data:=.fields #[.int 0 f.tk,.int (cR m) t,.int 1 (f.tk+1)]},toks:=f.tk+1+1}) (tk:=f.tk+1+1) (N9 _) (h5.push S {cls:=.type "range",data:=.fields #[.int 0 f.tk,.int (cR m) t,.int 1 (f.tk+1)]}) (Wh.mk (k:=0) (bA _ rfl)) ?_
    exactλI wr H M h' tk K z st cP=>q I wr H M h' tk K (λb o e=>z b o (dt b o e)) st λa Z=>gI (λb o e=>⟨o,dt b o e⟩) (cP a Z)))
 |0|1|2|3|4|5|6|7|8|9=>exact bG.bW
 |n+13=>exact bG.bW
end Bh
theorem Ox:v8 G k σ:=@d5 _ _ Bg @Bh.ok (G,k,σ)
end
end
section
variable{G:Gm}{K:jT}{T:Tab}{mm n m:ae}{k:Kf}{σ:St}{r:Rec}{sc:Sc}{re lK:aX}{env:Env}{pos:Pos}{v a b:V}{u u1 u2:ag}
theorem qo.congr(R:qo X ρ h env sc re)(e:∀n,c0 lK n=c0 re n):qo X ρ h env sc lK:=by
 obtain⟨m,d,f⟩:=R.ns;exact⟨R.kind,R.glob,R.blt,R.kinds,⟨m,d,λx n v a b c=>f x n v a ((e n).symm.trans b) c⟩,R.cells,λx n v a b c=>R.qR x n v a ((e n).symm.trans b) c,R.off,R.apart,R.has,R.norm⟩
def ups(re:aX):ab (ae×V)->aX
 |[]=>re|p::q=>ups (jY re p.1 p.2) q
theorem x9:∀(l:ab (ae×V))(re:aX)(n:ae),n∉l.map (·.1)->c0 (ups re l) n=c0 re n
 |[],a,b,c=>rfl|p::q,re,n,h=>by
  rw[dR,aG,not_or]at h;show c0 (ups (jY re p.1 p.2) q) n=_;rw[x9 q _ n h.2,hQ,aU h.1]
theorem Hi:∀(l:ab (ae×V))(re:aX)(n:ae)(v:V),(l.map (·.1)).Nodup->(n,v)∈l->c0 (ups re l) n=aa v
 |p::q,re,n,v,d,h=>by
  rw[dR,gV]at d;show c0 (ups (jY re p.1 p.2) q) n=_;rcases aG.mp h with e|h
  ·subst e
   rw[x9 q _ n d.1,hQ,bc rfl]
  ·exact Hi q _ n v d.2 h
theorem Tq(l:ab (ae×V))(re:aX)(d:(l.map (·.1)).Nodup)(n:ae):c0 (ups re l) n=c0 (ups re l.reverse) n:=by
 have c:(l.reverse.map (·.1)).Nodup:=by
  rw[gq];unfold ab.Nodup at d⊢;rw[fk];exact d.imp λh=>Ne.symm h
 by_cases h:n∈l.map (·.1)
 ·refine ck λe=>?_
  obtain⟨⟨m,v⟩,hp,rfl⟩:=bF.mp h;refine e ?_;simp only[Hi l re m v d hp,Hi l.reverse re m v c (gp.mpr hp)]
 ·rw[x9 l re n h,x9 l.reverse re n (by rw[gq,gp];exact h)]
theorem uL{f:ae->aE}:∀{l:ab ae},r7 f l=aq->∀x∈l,f x=aq
 |[],b,x,h=>sr h|a::l,e,x,h=>by
  have e:cS (f a) (r7 f l) ai=aq:=e
  induction q:f a with
  |false=>rw[q]at e;exact fT e|true=>
   rw[q]at e;rcases aG.mp h with rfl|h
   ·exact q
   ·exact uL e x h
theorem mN:∀{l:ab ae},Aj l=aq->l.Nodup
 |[],c=>B'|a::l,e=>by
  have e:cS (r7 (λb=>dU (au a b)) l) (Aj l) ai=aq:=e
  induction q:r7 (λb=>dU (au a b)) l with
  |false=>rw[q]at e;exact fT e|true=>
   rw[q]at e;refine gV.mpr ⟨λh=>?_,mN e⟩;have:=uL q a h;rw[eL]at this;exact fT this
set_option genInjectivity false in
structure Wk where
 x:Str
 k:ae
 v:V
 u:ag
theorem EX:∀(l:ab Wk)(re:aX){k:Kf},(∀p∈l,fA p.x=aa p.k/\env.kindOf p.x=aa .local)->cB G k env sc re->(∀p∈l,RV G k p.v p.u)->
  cU G n (cy env) k σ (rt (ups re (l.map λp=>(p.k,p.v)))) (RE G env sc) (gD (l.map λp=>sj env p.x) (l.map (·.u)))
 |[],re,k,i,R,b=>cU.pure (rep:=RE G env sc) R|p::l,re,k,i,R,o=>λa τ e S A Q E s q=>by
  show bk _ _ (do dJ (l.map (·.u)) (sj env p.x p.u);gD (l.map λp=>sj env p.x) (l.map (·.u))) _ _ _
  refine aj (aP (um (A9 (xF.all (sc:=sc)).sub ((i p ax).1) (.inl ⟨((i p ax).2),(xF.all (sc:=sc)).loc⟩) R (o p ax) _ σ rfl S A _ E s λι k₁ g c d=>?_)));exact EX l _ (λq j=>i q (aK _ j)) d (λq j=>Rep.mono g R.nt (o q (aK _ j))) a τ e c A Q E s λy f h=>q y f (g.trans h)
noncomputable def EY(env:Env)(line:ae):aQ->ao Str:=λ
 |.Name id pos=>if env.kindOf id==aa .local&&pos.line==line then aa id else aw
 |_=>aw
theorem Oy(h:EY env line t=aa x):∃p,t=.Name x p/\env.kindOf x=aa .local:=by
 induction t using dz with
 |Name id p=>
  replace h:(if env.kindOf id==aa .local&&p.line==line then aa id else aw)=aa x:=h
  by_cases c:(env.kindOf id==aa .local&&p.line==line)=aq
  ·rw[bc c]at h
   obtain rfl:=af h;exact⟨p,rfl,eF.mp (fS c).1⟩
  ·rw[aU c]at h;exact b6 h
 |_=>exact b6 h
theorem Tr{α c:Type}{f:α->ao c}{a:α}{l:ab α}(h:((a::l).filterMap f).length=(a::l).length):∃b,f a=aa b/\(l.filterMap f).length=l.length:=by
 rw[Mu]at h
 induction e:f a with
 |none=>rw[e]at h;exact er (h▸ab.length_filterMap_le f l) (ae.not_succ_le_self _)|some b=>rw[e]at h;exact⟨b,rfl,o8 h⟩
theorem Oz{i j c d l:Prop}[jP i][jP j][jP c][jP d][jP l]{N:ab Str}{u x:Sem (ao (ab Str))}(e:x=if i then pure aw else if j then pure aw else if c then pure aw else if d then pure aw else if l then u else pure (aa N))(p:l->d):x=pure aw\/(x=pure (aa N)/\¬c):=by
 by_cases h:i
 ·exact .inl (e.trans (bc h))
 by_cases f:j
 ·exact .inl (e.trans ((aU h).trans (bc f)))
 by_cases g:c
 ·exact .inl (e.trans ((aU h).trans ((aU f).trans (bc g))))
 by_cases o:d
 ·exact .inl (e.trans ((aU h).trans ((aU f).trans ((aU g).trans (bc o)))))
 exact .inr ⟨e.trans ((aU h).trans ((aU f).trans ((aU g).trans ((aU o).trans (aU λq=>o (p q)))))),g⟩
inductive OA(env:Env):aQ->aQ->Prop
 |mk (ts:ab aQ) (j:ae) (p:Pos) (vs:ab aQ) (j' :ae) (p' :Pos) (line:ae) (sw:rd [.Tuple ts j p] (.Tuple vs j' p') env=pure (aa (ts.filterMap (EY env line)))) (len:(ts.filterMap (EY env line)).length=ts.length) (nd:Aj (ts.filterMap nmE)=aq):OA env (.Tuple ts j p) (.Tuple vs j' p')
theorem or2{a b:aE}(h:orB a b=ai):a=ai/\b=ai:=by
 induction a with
 |true=>exact tF h|false=>exact⟨rfl,h⟩
theorem Av{t e:aQ}(hb:Ck t e=ai):rd [t] e env=pure aw\/OA env t e:=by
 induction t using dz with
 |Tuple ts j p=>
  induction e using dz with
  |Tuple vs g i=>
   obtain⟨hb,l⟩:=or2 (a:=vs.all (constantsAlone 8)&&!vs.all (Ml 8)) hb;rcases Oz (N:=ts.filterMap (EY env ((ts.head?.map (·.pos.line)).getD 0))) (x:=rd [.Tuple ts j p] (.Tuple vs g i) env) rfl (λc=>by
    induction f:vs.all (Ml 8) with
    |true=>rfl|false=>rw[c,f]at hb;exact tF hb) with h|⟨h,d⟩
   ·exact .inl h
   ·exact .inr ⟨ts,j,p,vs,g,i,_,h,by
     have d:=iR.mpr d;exact bne_eq_false_iff_eq.mp (i_.mp d).1,Kv l⟩
  |_=>exact .inl rfl
 |List=>exact tF hb|_=>exact .inl rfl
structure NSl(G:Gm)(k:Kf)(env:Env)(line:ae)(ts:ab aQ)(us:ab ag)(re aaQ:aX)(sl:ab Wk):Prop where
 us:sl.map (·.u)=us
 xs:ts.filterMap (EY env line)=sl.map (·.x)
 ks:ts.filterMap nmE=sl.map (·.k)
 re:aaQ=ups re (sl.map λp=>(p.k,p.v))
 ok:∀p∈sl,fA p.x=aa p.k/\env.kindOf p.x=aa .local
 rep:∀p∈sl,RV G k p.v p.u
theorem EZ(R:cB G k env sc lK):∀{l:V}{us:ab ag}{re d:aX}{σ τ:St},Ak r sc ts l re σ=aa (d,τ)->RL G k l us->(ts.filterMap (EY env line)).length=ts.length->τ=σ/\∃sl,NSl G k env line ts us re d sl:=by
 induction ts with
 |nil=>
  intro l us re d σ τ he g _
  replace he:opt (isNil l) (λt=>eB t (rt re)) σ=aa (d,τ):=he
  induction l using V.casesOn with
  |nil=>
   obtain⟨i,j⟩:=av (af he);exact⟨j.symm,[],(show us=[] from g.rep).symm,rfl,rfl,i.symm,λι h=>sr h,λι h=>sr h⟩
  |_=>exact b6 he
 |cons t ts H=>
  intro l us re d σ τ he g s
  replace he:pairD l bW (λh q=>b8 (Cq r sc t h re) λre1=>Ak r sc ts q re1) σ=aa (d,τ):=he
  obtain⟨x,A,s⟩:=Tr s;obtain⟨ps,C,I⟩:=Oy A
  induction l using V.casesOn with
  |cons a l=>
   obtain⟨p,w,e1,e2⟩:=br he;obtain⟨u,y,J,L,M⟩:=g.rep;rw[C]at e1;obtain⟨D,N,e1⟩:=lb (o:=ip sc x) (f:=λk=>rt (jY re k a)) e1;obtain⟨i,j⟩:=av (af e1);have c:=(qV N R).1;obtain⟨O,sl,z⟩:=H e2 (us:=y) ⟨g.lst,M⟩ s;have E:∀{F:Type}{f:aQ->ao F}{b:F},f t=aa b->(t::ts).filterMap f=b::ts.filterMap f:=λh=>by rw[Mu,h]
   exact⟨O.trans j.symm,⟨x,D,a,u⟩::sl,J▸aY (u::·) z.us,(E A).trans (aY _ z.xs),(E (show nmE t=aa D from C▸c)).trans (aY _ z.ks),z.re.trans (i▸rfl),
    λp hp=>(aG.mp hp).elim (λe=>e▸⟨c,I⟩) (z.ok p),λp hp=>(aG.mp hp).elim (λe=>e▸L) (z.rep p)⟩
  |_=>exact b6 he
theorem Hj(H:Wi G K)(I:gw G r n)(W:2<=n)(hb:dU (Ck t e)=aq)(U:yh [t] e pos.line env=pure ai)(R:cB G k env sc re):
  cU G n (cy env) k σ (b8 (r.ev sc e re) λv=>b8 (ui r sc t v re) λre1=>rt (.next,re1)) (RF G env sc) (oW (.Assign [t] e pos) env):=λx τ he S A Q E RA q=>by
 obtain⟨v,d,e1,he⟩:=br he;obtain⟨re1,g,e2,he⟩:=br he;obtain⟨rfl,rfl⟩:=av (af he);clear he;rcases Av (env:=env) (tv hb) with M|⟨ts,j,p,vs,j',p',line,M,X,Y⟩
 ·refine j4 (I.ev R v d e1 S A _ E RA λu k₁ c qU i=>?_) U M
  have e0:(hX [t] env).map (·.2)=[fx t env]:=by rcases t<;>first|rfl|exact b6 e2
  rw[e0];exact ES H I W (R.mono c) i re1 _ e2 qU A _ E RA λι f y C D=>q .next f (c.wk.trans y) C ⟨D,rfl⟩
 ·refine ql (I.ev R v d e1 S A _ E RA λu k₁ c qU i=>?_) U M
  replace e2:mn v (λl=>Ak r sc ts l re) d=aa (re1,g):=e2
  induction v using V.casesOn with
  |tup l=>
   obtain⟨a,us,rfl,it,na,N,Z⟩:=i;obtain⟨O,sl,z⟩:=EZ (line:=line) (R.mono c) (show Ak r sc ts l re d=aa (re1,g) from e2) (us:=us) ⟨N,Z⟩ X
   have len:(ts.filterMap (EY env line)).length=us.toArray.size:=by rw[z.xs,b9,a7,<-z.us,b9]
   rw[len];refine aT<|wpAny_unpackItems_tuple RA.handled it λs hex=>?_
   have f:∀b o,k₁.h.get? b=aa o->s.get? b=aa o:=λb o e=>hex b o (df (eG e)) e;have w:Le k₁ ⟨k₁.ρ,s,k₁.tk⟩:=bY.old f;have e1:((ts.filterMap (EY env line)).reverse.map λn=>sj env n)=sl.reverse.map λp=>sj env p.x:=by rw[z.xs,<-gq,fz];rfl
   have e2:us.toArray.toList.reverse=sl.reverse.map (·.u):=by rw[gq,z.us]
   rw[e1,e2];have P:((sl.map λp=>(p.k,p.v)).map (·.1)).Nodup:=by rw[fz];exact z.ks▸mN Y
   refine EX (k:=⟨k₁.ρ,s,k₁.tk⟩) sl.reverse re (λp hp=>z.ok p (gp.mp hp)) ((R.mono c).mono w) (λp hp=>(z.rep p (gp.mp hp)).mono w NT.nil) _ _ rfl (qU.keeps f) A _ E RA λι F J L yX=>?_;exact q .next F ((c.trans w).wk.trans J) (O▸L) ⟨yX.congr λm=>by rw[z.re,gq];exact Tq _ re P m,rfl⟩
  |_=>exact b6 e2
theorem Hk{α t:Type}{c:ab V->Rm α}{rep:Kf->α->t->Prop}{W2:ag->WP t}(I:gw G r n)(p:fb es=aq)(R:cB G k env sc re)(D:n<=m)(F:Keeps G f)(z:∀vs g us k₁,Le k k₁->pj G k₁ vs us->bG G m k₁ g (c vs) rep (λA Q E s=>bk (Md G.w) A (call f (first++us)) (λx d=>W2 x A Q E d) E s)):bG G m k σ (b8 (te r sc re es) c) rep (λA Q E s=>bk (Md G.w) A (h7 pos f first (f6 pos (dm es env)) []) (λx d=>W2 x A Q E d) E s):=λx τ e S A Q E RA q=>by
 obtain⟨vs,g,e1,e2⟩:=br e;refine j3 (P:=Z8 G.X) (by rw[(plain_any p).1];rfl) F ?_
 induction es using a6 with
 |nil=>
  obtain⟨rfl,rfl⟩:=av (af e1);exact aT (Mt ⟨S.base,z [] σ [] k (Le.refl k) ⟨trivial,rfl⟩ x τ e2 S A Q E RA λy i j=>q y i j⟩)
 |cons e es=>
  have C:=rF (pos:=pos) I p R vs g e1 S A (λus d=>Z8 G.X d.heap/\bk (Md G.w) A (call f (first++us)) (λx d=>W2 x A Q E d) E d) E (RA.less D) λus k₁ l qU o=>⟨qU.base,z vs g us k₁ l o x τ e2 qU A Q E RA λy i j=>q y i (l.trans j)⟩
  rw[(jx p).1]at C⊢;exact jr (aI C (λus H h=>by exact⟨h.1,by exact h.2⟩) λι ι e=>e)
theorem RI.up(l:Le k0 c)(h:RI G c k' i x):RI G k0 k' i x:=by
 refine ck λd=>?_;obtain⟨I,wr,S,M,e,K,st,cP⟩:=h;refine d ?_;exact⟨I,wr,S,M,e,K,st,λa f=>gI l.live (cP a f)⟩
theorem bG.imp{α d:Type}{c:Rm α}{rep p:Kf->α->d->Prop}{W:WP d}(h:bG G n k σ c rep W)(i:∀k' a v,rep k' a v->p k' a v):bG G n k σ c p W:=λa τ e S A Q E R q=>h a τ e S A Q E R λv k' l f r=>q v k' l f (i k' a v r)
theorem bG.less(h:bG G n k σ c rep W)(l:n<=m):bG G m k σ c rep W:=λa τ e S A Q E R q=>h a τ e S A Q E (R.less l) q
theorem oG(h:dU (isSet e)=aq)(x:ag):mf e env x=pure x:=by rcases e<;>first|rfl|exact fT h
theorem OB(h:aaB v=aa j):v=.bi j:=by
 induction v using V.casesOn with
 |bi k=>exact aY V.bi (af h)|_=>exact b6 h
theorem Hl(h:Cm sc f=aa j):∃x p,f=.Name x p/\uf sc x=aa (.cst (.bi j)):=
 have h:=Js h
 wo (motive_1:=λf=>aaC (uf sc (nmX f))=aa j->∃x p,f=.Name x p/\uf sc x=aa (.cst (.bi j))) f (ay h.1) (λx p h=>⟨x,p,rfl,by
  replace h:aaC (uf sc x)=aa j:=h
  generalize uf sc x=o at h
  induction o with
  |none=>exact b6 h|some n=>
   induction n with
   |loc=>exact b6 h|cst v=>exact aY (λv=>aa (Nm.cst v)) (OB h)⟩) h.2
inductive ItC(sc:Sc)(j:ae)(es:ab aQ):aQ->Prop
 |mk (x:Str) (px p:Pos) (nm:uf sc x=aa (.cst (.bi j))) (hs:fb es=aq):ItC sc j es (.Call (.Name x px) es [] p)
theorem E0(h:Cn sc e=aa (j,es)):ItC sc j es e:=by
 have h:=Js h;refine aQ.Call.elim (motive_1:=λe=>dG (clK e) (aaD (Ae e) (Cm sc (yb e))) (λι ι=>aw)=aa (j,es)->ItC sc j es e) e (ay h.1) (λf es' w p h=>?_) h.2
 induction w using a6 with
 |cons=>exact b6 h|nil=>
  replace h:aaD es' (Cm sc f)=aa (j,es):=h
  induction hb:Cm sc f with
  |none=>rw[hb]at h;exact b6 h|some k=>
   rw[hb]at h;obtain⟨c,h⟩:=Js h;obtain⟨rfl,rfl⟩:=av (af h);obtain⟨x,d,rfl,nm⟩:=Hl hb;exact⟨x,d,p,nm,(fS c).2⟩
theorem JA(H:qT G K T mm)(I:gw G r n)(F:8<=n){e:aQ}(R:cB G k env sc re):bG G n k σ (la r sc e re) (RI G k) (λA Q E s=>bk (Md G.w) A (cn e env) (λx c=>bk (Md G.w) A (kY x) Q E c) E s):=by
 unfold la;refine bG.eB λι=>?_
 induction M:Cn sc e with
 |none=>exact bG.bind (I.ev R) λv C u k₁ l N=>((Ob H.mods N).less F).imp λk' a x ι h=>RI.up l h|some q=>
  obtain⟨j,es⟩:=q;obtain⟨x,O,p,nm,P⟩:=E0 M;intro y τ e S A Q E J q;refine aj (m:=cn (.Name x O) env) (f:=λf=>h7 p f [] (f6 p (dm es env)) []) ((EJ (T:=T) (r:=r) H.toWi nm R) (.bi j) σ rfl S A _ E J λu k₁ l d U=>?_);exact(show u=G.X.Gd j from U)▸Hk (W2:=λx A Q E c=>bk (Md G.w) A (kY x) Q E c) (first:=[]) I P (R.mono l) (aF n) (H.He j)
   (λvs D us L g i=>((Ox H.bi i).less F).imp λk' a x h=>RI.up (l.trans g) h) y τ e d A Q E J λz o t=>q z o (l.trans t)
theorem xG(h:g=aq->aN G n k σ (w.f T r re) rep t):aN G n k σ ((gA g w).f T r re) rep t:=by
 induction g with
 |true=>exact h rfl|false=>exact aN.bW
theorem Ts{α c d:Type}{rep:Kf->α->c->Prop}{t:Sem c}{o:ao d}{w:d->Co α}(h:∀x,o=aa x->aN G n k σ ((w x).f T r re) rep t):aN G n k σ ((oA o w).f T r re) rep t:=by
 induction o with
 |some x=>exact h x rfl|none=>exact aN.bW
theorem K9(H:qT G K T mm)(I:oF G r n)(p:mm<=n)(t:8<=n)(q:XK f=ai)(s:fb es=aq)(R:cB G k env sc re):aN G (n+2) k σ (b8 (r.ev sc f re) λv=>b8 (te r sc re es) λvs=>w_ T r v vs) (RV G) (cn (.Call f es [] pos) env):=by
 have e0:cn (.Call f es [] pos) env=(do h7 pos (<-cn f env) [] (f6 pos (dm es env)) []):=by rcases f<;>first|rfl|exact tF q
 refine e0▸?_;refine aN.bind ((I.ev R).less (bp n 2)) λv o u k₁ l g=>?_;have w:=pG (σ:=o) (pos:=pos) I.togw s (R.mono l) (bp n 2)
 induction v using V.casesOn with
 |fn j=>
  have g:u=.ref (G.X.jV j):=g;subst g;exact w _ [] (λvs=>d' T r j vs) (H.Jy j) λvs d us h i c=>((yU H I p c).call).less (fa _)
 |cls j=>
  have g:u=.ref (G.X.h_ j):=g;subst g;exact w _ [] (λvs=>XM T r j vs) (H.Wj j) λvs d us h i c=>Tj H I p c
 |bi j=>
  have g:u=G.X.Gd j:=g;subst g;exact w _ [] (λvs=>Ng j vs) (H.He j) λvs d us h i c=>(K4 H.toWi c).less (by lia)
 |_=>exactλa τ e=>by obtain⟨_,_,_,e2⟩:=br e;exact b6 e2
theorem Wl(h:g=aq->cU G n xs k σ (w.f T r re) rep t):cU G n xs k σ ((gA g w).f T r re) rep t:=by
 induction g with
 |true=>exact h rfl|false=>exact cU.bW
theorem aaR{α c d:Type}{xs:ab aB}{rep:Kf->α->c->Prop}{t:Sem c}{o:ao d}{w:d->Co α}(h:∀x,o=aa x->cU G n xs k σ ((w x).f T r re) rep t):cU G n xs k σ ((oA o w).f T r re) rep t:=by
 induction o with
 |some x=>exact h x rfl|none=>exact cU.bW
theorem CV(h:dU (GD e)=aq)(line:ae)(t:ao aQ):ML e t line env=pure ai:=by rcases e<;>first|rfl|exact nomatch h
theorem K_(I:gw G r n)(h:dU (GD e)=aq)(R:cB G k env sc re):cU G n (cy env) k σ (b8 (r.ev sc e re) λι=>rt (.next,re)) (RF G env sc) (oW (.Expr e pos) env):=λx τ he S A Q E f q=>by
 refine ck λg=>?_;obtain⟨v,d,e1,he⟩:=br he;obtain⟨rfl,rfl⟩:=av (af he);refine g ?_;exact uq (I.ev R v _ e1 S A _ E f λu k₁ l c ι=>q .next k₁ l.wk c ⟨R.mono l,rfl⟩) R.norm (CV h _ _)
theorem OC(I:gw G r n)(R:cB G k env sc re):cU G n (cy env) k σ (b8 (r.ev sc e re) λv=>rt (.ret v,re)) (RF G env sc) (oW (.Return (aa e) pos) env):=λx τ he S A Q E f q=>by
 refine ck λg=>?_;obtain⟨v,d,e1,he⟩:=br he;obtain⟨rfl,rfl⟩:=av (af he);refine g ?_;exact xB (I.ev R v _ e1 S A _ E f λu k₁ l c h=>q (.ret u) k₁ l.wk c ⟨R.mono l,u,rfl,h⟩)
theorem K'(R:cB G k env sc re):cU G n (cy env) k σ (rt (.ret .none,re)) (RF G env sc) (oW (.Return aw pos) env):=λx τ he S A Q E d q=>by
 refine ck λc=>?_;obtain⟨rfl,rfl⟩:=av (af he);refine c ?_;exact aT (wpAny_Return_none (q (.ret .none) k (bY.refl _ _ _) S ⟨R,_,rfl,rfl⟩))
theorem Tt(I:oF G r n){c:aQ}{a b:ab cF}(R:cB G k env sc re):cU G n (cy env) k σ (mx (r.tr sc c re) (r.ex sc a re) (r.ex sc b re)) (RF G env sc) (oW (.If c a b pos) env):=λx τ he S A Q E i q=>by
 refine ck λj=>?_;obtain⟨t,h,e1,he⟩:=br he;refine j ?_;refine NB (I.tr R t h e1 S A _ E i λp k₁ l e o=>?_);clear e1;subst o
 induction t with
 |true=>rw[bc rfl];exact I.ex (R.mono l) x τ he e A Q E i λf d g=>q f d (l.wk.trans g)|false=>rw[aU bM];exact I.ex (R.mono l) x τ he e A Q E i λf d g=>q f d (l.wk.trans g)
theorem el.mark(RA:el A n):el (A.mark aw) n:=⟨by rw[aW.mark];simp[RA.handled],RA.depth,RA.units⟩
theorem Tu(I:oF G r n)(R:cB G k env sc re):cU G n (cy env) k σ (I5 r sc c body f re) (RF G env sc) (oW (.While c body [] pos) env):=λx τ he S A Q E RA q=>
 Kt (Yh I f R (bY.refl _ _ _) x τ he S (A.mark aw) _ RA.mark q)
theorem Bi(H:qT G K T mm)(I:gw G r n)(g:8<=n)(B:∀{re:aX}{k:Kf}{σ:St},cB G k env sc re->cU G n (cy env) k σ (r'.ex sc body re) (RF G env sc) (eY body env))(j:dr sc t=aa xs)(R:cB G k env sc re):cU G n (cy env) k σ (b8 (la r sc it re) λi=>h6 r' sc xs body f i re) (RF G env sc) (oW (.For t it body [] pos) env):=λx τ he S A Q E RA q=>by
 refine ck λe=>?_;obtain⟨i,c,e1,he⟩:=br he;have s:dU (isSet it)=aq:=by
  induction h:dU (isSet it) with
  |true=>rfl|false=>unfold la at e1;exact b6 (h▸e1)
 refine e ?_;refine Ja (JA H I g R i c e1 S A _ E RA λo k₁ l d p=>?_) λx=>oG s x;refine ck λe=>?_;obtain⟨y,wr,w,M,rfl,IO,st,cP⟩:=p;refine e ?_;exact Ow B (by lia) j IO (k0:=k) cP f (R.mono l) st l.wk x τ he d (A.mark aw) _ RA.mark q
theorem OD(H:qT G K T mm)(I:oF G r n)(h:8<=n)(c:dr sc t=aa xs)(R:cB G k env sc re):cU G n (cy env) k σ (b8 (la r sc it re) λi=>h6 r sc xs body f i re) (RF G env sc) (oW (.For t it body [] pos) env):=Bi H I.togw h (λR=>I.ex R) c R
theorem Tv{Q:tT->ah->Prop}(h:bk M A (eY body env) (λf d=>f=.next/\Q .next d) (λι ι=>jD) s):bk M A (oW (.Try body (g::i) [] [] pos) env) Q E s:=by
 rw[arm_exec_Try];refine aj (a8 ?_);refine aj (nO (aI h (λf d c=>?_) λe d c=>c.elim));obtain⟨rfl,c⟩:=c;exact gQ c
theorem OE(I:oF G r n)(R:cB G k env sc re):cU G n (cy env) k σ (b8 (r.ex sc body re) λp=>Fl.casesOn p.1 (rt p) (λι=>bW)) (RF G env sc) (oW (.Try body (h::s) [] [] pos) env):=λx τ he S A Q E j q=>by
 refine ck λd=>?_;obtain⟨⟨l,re1⟩,e,e1,he⟩:=br he;refine d ?_
 induction l with
 |ret v=>exact b6 he|next=>
  refine ck λd=>?_;obtain⟨rfl,rfl⟩:=av (af he);refine d ?_;exact Tv (I.ex R _ _ e1 S A _ _ j λf k₁ g c i=>⟨i.2,by have:=i.2;exact q .next k₁ g c ⟨i.1,rfl⟩⟩)
def Bj(G:Gm)(T:Tab)(r:Rec)(n:ae):Prop:=∀{sc re k σ env pos elt gens scope p y c},cB G k env sc re->ML (.ListComp elt gens scope p) (aa (.Name y c)) pos.line env=pure aq->
 cU G n (cy env) k σ (b8 (r.ev sc (.ListComp elt gens scope p) re) λv=>b8 (ui r sc (.Name y c) v re) λre1=>rt (.next,re1)) (RF G env sc) (oW (.Assign [.Name y c] (.ListComp elt gens scope p) pos) env)
theorem yY(H:qT G K T mm)(I:oF G r n)(U:Bj G T r n)(o:8<=n){m:cF}(R:cB G k env sc re):cU G n (cy env) k σ ((iq sc m).f T r re) (RF G env sc) (oW m env):=by
 induction m using cF.casesOn with
 |Expr e p=>exact Wl λq=>K_ I.togw q R|Assign ts e p=>
  induction ts using a6 with
  |nil=>exact cU.bW|cons t ts=>
   induction ts using a6 with
   |cons=>exact cU.bW|nil=>
    refine Wl λg=>?_;obtain⟨hb,d⟩:=fS g
    by_cases s:yh [t] e p.line env=pure ai
    ·exact Hj H.toWi I.togw (by lia) hb s R
    ·induction e using dz with
     |ListComp elt gens scope i=>
      induction t using dz with
      |Name y j=>
       refine U R ?_;have e1:ML (.ListComp elt gens scope i) (aa (.Name y j)) p.line env=pure (env.blockKind==.function&&env.kindOf y==aa .local&&j.line==i.line
        &&!(scope.names.any λ(n,k)=>n==y&&(k==.local ||k==.cell))):=rfl
       refine e1▸?_
       induction e2:(env.blockKind==.function&&env.kindOf y==aa .local&&j.line==i.line&&!(scope.names.any λ(n,k)=>n==y&&(k==.local ||k==.cell))) with
       |true=>rfl|false=>exact(s (e1.trans (by rw[e2]))).elim
      |_=>exact(s rfl).elim
     |SetComp=>exact fT d|DictComp=>exact fT d|_=>exact(s rfl).elim
 |Return e p=>
  induction e with
  |some e=>exact OC I.togw R|none=>exact K' R
 |If c a b p=>exact Tt I R|For t it body l p=>
  induction l using a6 with
  |nil=>exact aaR λxs x=>OD H I o x R|cons=>exact cU.bW
 |While c body l p=>
  induction l using a6 with
  |nil=>exact Tu (f:=hM) I R|cons=>exact cU.bW
 |Try body s l fin p=>
  induction s using a6 with
  |nil=>exact cU.bW|cons h s=>
   induction l using a6 with
   |cons=>exact cU.bW|nil=>
    induction fin using a6 with
    |cons=>exact cU.bW|nil=>exact OE I R
 |_=>exact cU.bW
theorem uM(H:qT G K T mm)(I:oF G r n)(U:Bj G T r n)(w:8<=n):∀{l:ab cF}{re:aX}{k:Kf}{σ:St},cB G k env sc re->cU G n (cy env) k σ (x3 T r sc l re) (RF G env sc) (eY l env)
 |[],re,k,σ,R=>λx τ e S A Q E t q=>by
  refine ck λj=>?_;obtain⟨rfl,rfl⟩:=av (af e);refine j ?_;exact gQ (q .next k (bY.refl _ _ _) S ⟨R,rfl⟩)
 |m::l,re,k,σ,R=>λx τ e S A Q E t q=>by
  have e:b8 ((iq sc m).f T r re) (λp=>gP p (x3 T r sc l)) σ=aa (x,τ):=e;refine ck λj=>?_;obtain⟨⟨y,re1⟩,h,e1,e2⟩:=br e;refine j ?_;refine ek (yY H I U w R (y,re1) h e1 S A _ E t λf k₁ g c i=>?_);obtain⟨d,i⟩:=i
  induction y with
  |next=>
   have i:f=.next:=i;subst i;exact uM H I U w d x τ e2 c A Q E t λf o s=>q f o (g.trans s)
  |ret v=>
   refine ck λj=>?_;obtain⟨rfl,rfl⟩:=av (af e2);obtain⟨u,rfl,z⟩:=i;refine j ?_;exact q (.ret u) k₁ g c ⟨d,u,rfl,z⟩
end
section
open PySem.SeqAt
variable{G:Gm}{K:jT}{T:Tab}{mm n m:ae}{k:Kf}{σ:St}{r:Rec}{sc:Sc}{re lK:aX}{env:Env}{pos:Pos}{v a b:V}{u u1 u2:ag}
theorem xH{M:dZ}{A:aW}{s:ah}{E:ag->ah->Prop}{k v:Sem ag}{rest:ab (Sem ag×Sem ag)}{Q:ab (ag×ag)->ah->Prop}(h:bk M A k (λl c=>bk M A v (λo d=>bk M A (MS rest) (λvs f=>Q ((l,o)::vs) f) E d) E c) E s):
  bk M A (MS ((k,v)::rest)) Q E s:=by
 rw[MS];refine aj (aI h (λl c g=>?_) λι ι e=>e);refine aj (aP (aI g (λo d i=>?_) λι ι e=>e));exact aj (aP (aI i (λvs f j=>aO j) λι ι e=>e))
inductive Pw(R:V->ag->Prop):ab (V×V)->ab (ag×ag)->Prop
 |nil:Pw R [] []
 |cons {a b:V}{u1 u2:ag}{l:ab (V×V)}{us:ab (ag×ag)} (h1:R a u1) (h2:R b u2) (t:Pw R l us):Pw R ((a,b)::l) ((u1,u2)::us)
theorem Pw.len(p:Pw R l us):us.length=l.length:=by
 induction p with
 |nil=>rfl|cons a b c i=>exact aY ar i
inductive Hm(r:Rec)(sc:Sc)(re:aX)(τ:St):ab (ao aQ)->ab aQ->St->ab (V×V)->Prop
 |nil:Hm r sc re τ [] [] τ []
 |cons {x v:aQ}{ks:ab (ao aQ)}{vs:ab aQ}{σ Eb JB:St}{a b:V}{l:ab (V×V)} (e1:r.ev sc x re σ=aa (a,Eb)) (e2:r.ev sc v re Eb=aa (b,JB)) (t:Hm r sc re τ ks vs JB l):Hm r sc re τ (aa x::ks) (v::vs) σ ((a,b)::l)
theorem Tw(ks:ab (ao aQ)):∀{vs:ab aQ}{σ:St}{l:ab (V×V)},prs r sc re ks vs σ=aa (l,τ)->Hm r sc re τ ks vs σ l:=by
 induction ks with
 |nil=>
  intro vs σ l e
  induction vs using a6 with
  |nil=>obtain⟨rfl,rfl⟩:=av (af e);exact .nil|cons=>exact b6 e
 |cons o ks i=>
  intro vs σ l e
  induction vs using a6 with
  |nil=>induction o<;>exact b6 e|cons v vs=>
   induction o with
   |none=>exact b6 e|some x=>
    refine ck λh=>?_;obtain⟨a,c,e1,e⟩:=br (f:=λa=>b8 (r.ev sc v re) λb=>b8 (prs r sc re ks vs) λl=>rt ((a,b)::l)) e;obtain⟨b,d,e2,e⟩:=br e;obtain⟨j,g,e3,e⟩:=br e;obtain⟨rfl,rfl⟩:=av (af e);exact h (.cons e1 e2 (i e3))
theorem Hm.shape(p:Hm r sc re τ ks vs σ l):ks.all (·.isSome)=aq/\ks.length=vs.length/\l.length=ks.length:=by
 induction p with
 |nil=>exact⟨rfl,rfl,rfl⟩|cons a b c i=>exact⟨i.1,aY ar i.2.1,aY ar i.2.2⟩
theorem OG(I:gw G r n)(g:el A n)(p:Hm r sc re τ ks vs σ l):∀{k:Kf}{Q:ab (ag×ag)->ah->Prop},cB G k env sc re->SR G k σ->
  (∀us k',Le k k'->SR G k' τ->Pw (RV G k') l us->Q us (sh G.b k'))->bk (Md G.w) A (MS (pairTrees ks vs env pos)) Q E (sh G.b k):=by
 induction p with
 |nil=>exactλR S q=>aO (q [] _ (Le.refl _) S .nil)|cons e1 e2 t i=>
  intro k Q R S q;refine xH (I.ev R _ _ e1 S A _ E g λu1 k₁ l1 c j=>?_);refine aj (I.ev (R.mono l1) _ _ e2 c A _ E g λu2 h l2 d o=>?_);refine aj (a8 (aO ?_));exact i (R.mono (l1.trans l2)) d λus e l3 f hp=>q _ e ((l1.trans l2).trans l3) f (.cons (j.mono (l2.trans l3) NT.nil) (o.mono l3 NT.nil) hp)
set_option backward.match.sparseCases false in
theorem Rep.same{X:Ctx}{ρ:fO}{h h' :bJ}{D:aB}(k:∀b o,b≠D->h.get? b=aa o->h'.get? b=aa o)(nt:∀us,¬h.IsTuple D us){x:V}{v:ag}{vs:ab ag}(r:Rep X ρ h x v vs):Rep X ρ h' x v vs:=
 Rep.but (xs:=[D]) (λb o d e=>k b o (λq=>d (q▸fQ _)) e) (λa us c=>by rw[aJ]at c;subst c;exact nt us) r
set_option backward.match.sparseCases false in
theorem OH(h:XN ((a,b)::ps) l ep=aa p):keyOk a=aq/\qi l a=ai/\XN ps (DX l a b) (ar ep)=aa p:=by
 have h:(match keyOk a,qi l a with|true,ai=>XN ps (DX l a b) (ar ep)|_,_=>aw)=aa p:=h
 generalize keyOk a=x at h⊢;generalize qi l a=y at h⊢
 induction x with
 |false=>exact b6 h|true=>
  induction y with
  |true=>exact b6 h|false=>exact⟨rfl,rfl,h⟩
theorem storeAll{Q:PUnit->ah->Prop}{R:V->ag->Prop}(p:Pw R ps us):
  ∀{l:V}{ep:ae}{es:ab aZ}{s:ah},(∀a u,R a u->iU X ρ s.heap a u)->XN ps l ep=aa (F,c)->s.heap.get? D=aa (mz es ep)->Ab X w ρ s.heap l es->es.length+us.length<=4096->
  (∀h' es' tk,h'.get? D=aa (mz es' c)->Ab X w ρ h' F es'->es'.length<=4096->dy D s.heap h'->Q Mv {s with heap:=h',toks:=tk})->
  bO (Md w) A (AY us Mv λ(x:ag×ag)(ι:PUnit)=>(do dictSet D x.1 x.2;pure (hY Mv):Sem (ForInStep PUnit))) Q E s:=by
 induction p with
 |nil=>
  intro l ep es s _ d j f hz y;obtain⟨rfl,rfl⟩:=av (af d);exact aH (y s.heap es s.toks j f hz (DK _ _))
 |cons g L t M=>
  intro l ep es s m d j f hz y;obtain⟨z,H,d⟩:=OH d;obtain⟨k,h⟩:=mM z;have st:=eJ.SD (w:=w) f h z (m _ _ L) (m _ _ g) H;rw[jU];refine ak (ak (xg (key_is h (m _ _ g)) j (eJ.keys (w:=w) f) (bq (bp _ _) hz) λg N O I C i=>aH ?_));rw[A6 (w:=w) f h z H]at I;obtain⟨rfl,rfl⟩:=I;have nt:∀us,¬s.heap.IsTuple D us:=pC j λι ι q=>nomatch q;have J:∀b o,b≠D->s.heap.get? b=aa o->g.get? b=aa o:=λb o P e=>(i.2 b P).trans e;exact M (s:={s with heap:=g,toks:=s.toks+1}) (λa u r=>Rep.same J nt (m a u r)) d C (eJ.map (λr=>Rep.same J nt r) st) (by simp only[bV,cY,mR]at hz⊢;lia) λh' es' tk S U W Y=>y h' es' tk S U W (i.trans Y)
theorem Bk{Q:ag->ah->Prop}(S:SR G k σ)(e2:new (.dict l ep) c=aa (x,τ))(q:∀u k',Le k k'->SR G k' τ->RV G k' x u->Q u (sh G.b k'))(g1:bY k.ρ (k.h.push (mz [] 0)) k₁.ρ k₁.h [])(E:SR G k₁ c)(d:h'.get? (sz k)=aa (mz es' ep))(F:Ab G.X G.w k₁.ρ h' l es')(H:es'.length<=4096)(A:dy (sz k) k₁.h h'):Q (.ref (sz k)) {sh G.b k₁ with heap:=h',toks:=tk}:=by
 obtain⟨I,rfl,rfl⟩:=ox e2;have z:k.h.get? (sz k)=aw:=cO (aF _);have f:=S.cP z;have i:Le k ⟨k.ρ,k.h.push (mz [] 0),k.tk⟩:=bY.old dt;have D:(k.h.push (mz [] 0)).get? (sz k)=aa (mz [] 0):=bA _ rfl;have g:=g1.keep _ _ D f.1 gL;have j:=g1.off D f.1;have t:∀us,¬h'.IsTuple (sz k) us:=pC d λι ι q=>nomatch q;have keep:∀b o,b∉[sz k]->k₁.h.get? b=aa o->h'.get? b=aa o:=λb o s e=>(A.2 b (λq=>s (q▸fQ _))).trans e;have live:∀b o,k₁.h.get? b=aa o->∃o',h'.get? b=aa o' :=λb o e=>by
  by_cases q:b=sz k
  ·exact q▸⟨_,d⟩
  ·exact⟨o,(A.2 b q).trans e⟩
 have J:SR G ⟨k₁.ρ,h',tk⟩ c:=h5.frame E (xs:=[sz k]) (λa C=>by rw[aJ]at C;subst C;exact⟨j,f.2,(pC g λι ι q=>nomatch q:∀us,¬k₁.h.IsTuple (sz k) us),eO g λι q=>nomatch q⟩) live keep
 refine ck λL=>?_;obtain⟨y,M⟩:=h5.label J (p:=(sz k,sz k)) I j j f.2 f.2 t t ⟨_,d⟩ ⟨_,d⟩ λup=>⟨rfl,es',H,d,eJ.map up F⟩;refine L ?_;refine q (.ref (sz k)) ⟨k₁.ρ++[(sz k,sz k)],h',tk⟩ ⟨?_,λb o e s ι=>?_,λb o e=>?_⟩ M ⟨_,y,rfl⟩
 ·obtain⟨N,e3,O⟩:=(i.trans g1).pre
  refine⟨N++[(sz k,sz k)],by show k₁.ρ++_=_;rw[e3,eo],λp hp=>?_⟩
  rcases bE.mp hp with hp|hp
  ·exact O p hp
  ·rw[aJ]at hp;subst hp;exact⟨z,z⟩
 ·exact keep b o (λq=>by rw[aJ]at q;subst q;exact b6 (z.symm.trans e)) ((i.trans g1).mq b o e s gL)
 ·obtain⟨o',P⟩:=(i.trans g1).live b o e
  exact live b o' P
theorem La(I:gw G r n)(g:cf ks.length 15=aq)(R:cB G k env sc re):aN G n k σ (mkD r ks vs sc re) (RV G) (cn (.Dict ks vs pos) env):=λx τ e S A Q E F q=>by
 refine ck λi=>?_;obtain⟨ps,j,e1,e2⟩:=br e;obtain⟨⟨l,ep⟩,w,e2⟩:=lb (o:=XN ps .nil 0) (f:=λp=>new (.dict p.1 p.2)) e2;have y:=Tw _ e1;obtain⟨d,c,t⟩:=y.shape;have g:=ble g;have H:=S.cP (cO (aF _):k.h.get? (sz k)=aw);have J:Le k ⟨k.ρ,k.h.push (mz [] 0),k.tk⟩:=bY.old dt;have D:(k.h.push (mz [] 0)).get? (sz k)=aa (mz [] 0):=bA _ rfl;have z:SR G ⟨k.ρ,k.h.push (mz [] 0),k.tk⟩ σ:=S.keeps dt;refine i ?_
 by_cases C:ks=[]
 ·exfalso
  subst C;have:vs=[]:=qf.mp c.symm;refine ck λi=>?_;subst this;obtain⟨rfl,rfl⟩:=av (af e1);refine i ?_;refine aT (wpAny_Dict_empty ?_);refine ck λi=>?_;obtain⟨rfl,rfl⟩:=av (af w);refine i ?_;exact Bk (k₁:=⟨k.ρ,k.h.push (mz [] 0),k.tk⟩) S e2 q (es' :=[]) (bY.refl _ _ _) z D .nil (bj _) (DK _ _)
 ·have L:=pairTrees_length ks vs env pos d c
  rw[arm_eval_Dict,zip_pairTrees ks vs env pos d c,dictDisplay_pairs _ (by intro e;exact C (qf.mp (e▸L).symm)) (by lia)]
  refine aj (a8 (aj ?_));refine aj (aT (wpAny_alloc ?_));refine aj (aP ?_);refine Cs (by lia) ?_
  refine aj (OG (k:=⟨k.ρ,k.h.push (mz [] 0),k.tk⟩) I F y (R.mono J) z λus k₁ g1 M hp=>?_);refine aP ?_;have W:us.length<=15:=by rw[hp.len,t];exact g
  exact aj (aT (storeAll hp (s:=sh G.b k₁) (λι ι r=>r) w (g1.keep _ _ D H.1 gL) (es:=[]) .nil (by simp;lia) λh' es' tk N O P U=>aO (aO (aO (Bk S e2 q g1 M N O P U)))))
end
section
variable{G:Gm}{K:jT}{T:Tab}{mm n m:ae}{k:Kf}{σ:St}{r:Rec}{sc:Sc}{re lK:aX}{env:Env}{pos:Pos}{v a b:V}{u u1 u2:ag}
def Hn(G:Gm)(T:Tab)(r:Rec)(n:ae):Prop:=∀{sc elt gens scope p re k σ env},cB G k env sc re->aN G (n+2) k σ ((I4 sc elt gens scope).f T r re) (RV G) (cn (.ListComp elt gens scope p) env)
theorem OI{i:aQ}{lo c st:ao aQ}:GF i=aa (lo,c,st)->∃p,i=.Slice lo c st p:=by
 rcases i
 any_goals exactλh=>b6 h
 exactλh=>⟨_,by obtain⟨rfl,q⟩:=av (af h);obtain⟨rfl,rfl⟩:=av q;rfl⟩
theorem OJ(I:gw G r n)(c:4<=n){a i:aQ}(R:cB G k env sc re):aN G n k σ ((XO sc a i).f T r re) (RV G) (cn (.Subscript a i pos) env):=by
 unfold XO;rcases h:GF i with _|⟨lo,d,st⟩
 ·exact Ol I c h R
 ·obtain⟨p,rfl⟩:=OI h
  rcases st with _|st
  ·exact Om I c R
  ·refine xG λs=>?_
   have g:=(fS s).1;rcases lo with _|lo
   ·rcases d with _|d
    ·exact Oo I c ((fS s).2) R
    ·exact fT (fS g).2
   ·exact fT (fS g).1
theorem Lb(H:qT G K T mm)(I:oF G r n)(c:mm<=n)(d:8<=n)(R:cB G k env sc re):aN G (n+2) k σ ((Wd sc f es pos).f T r re) (RV G) (cn (.Call f es [] pos) env):=by
 refine xG λs=>?_
 induction f using dz with
 |Attribute a x p=>exact xG λh=>Ts λj e=>K5 H I c d (fS h).2 e s (fS (fS h).1).2 (fS (fS h).1).1 R|_=>exact K9 H I c d rfl s R
theorem OK(H:qT G K T mm)(I:oF G r n)(C:Hn G T r n)(l:mm<=n)(d:8<=n)(R:cB G k env sc re):aN G (n+2) k σ ((qk sc e).f T r re) (RV G) (cn e env):=by
 have up:∀{c:Rm V}{t:Sem ag},aN G n k σ c (RV G) t->aN G (n+2) k σ c (RV G) t:=λh=>h.less (bp n 2)
 induction e using dz with
 |Constant c j p=>exact Ts λv o=>K1 o|Name x p=>exact Ts λnm q=>up (EJ H.toWi q R)|BoolOp op es p=>
  refine xG λι=>?_
  induction op with
  |And=>exact up (EK H.toWi I.togw (by lia) R)|Or=>exact up (Ju H.toWi I.togw (by lia) R)
 |BinOp a op b p=>exact up (Oc H.toWi I.togw (by lia) R)|UnaryOp op a p=>
  induction op with
  |Not=>exact up (Oe H.toWi I.togw (by lia) R)|USub=>exact up (Od H.toWi I.togw (by lia) R)|_=>exact aN.bW
 |IfExp c a b p=>exact up (Tf H.toWi I.togw R)|Tuple es j p=>exact xG λs=>up (Oh I.togw s R)|List es p=>exact xG λs=>up (Oi I.togw s R)|Dict ks vs p=>exact xG λg=>up (La I.togw g R)|Compare a ops es p=>
  induction ops using a6 with
  |nil=>exact aN.bW|cons A ops=>
   induction ops using a6 with
   |nil=>
    induction es using a6 with
    |nil=>exact aN.bW|cons b es=>
     induction es using a6 with
     |nil=>exact xG λs=>up (Of H.toWi I.togw (by lia) s R)|cons=>exact aN.bW
   |cons D ops=>
    induction ops using a6 with
    |cons=>exact aN.bW|nil=>
     induction es using a6 with
     |nil=>exact aN.bW|cons b es=>
      induction es using a6 with
      |nil=>exact aN.bW|cons c es=>
       induction es using a6 with
       |nil=>exact xG λs=>up (Ha H.toWi I.togw (by lia) s R)|cons=>exact aN.bW
 |Attribute a x p=>exact xG λy=>Ts λj z=>up (K2 H.toWi I.togw (gG d) y z R)|Subscript a i p=>exact up (OJ I.togw (gG d) R)|Call f es w p=>
  induction w using a6 with
  |nil=>exact Lb H I l d R|cons=>exact aN.bW
 |ListComp elt gens scope p=>exact C R|_=>exact aN.bW
theorem OL(H:qT G K T mm)(I:oF G r n)(d:8<=n)(R:cB G k env sc re):aN G n k σ ((Kn sc e).f T r re) RB (isTrue e env (cn e env)):=by
 induction e using dz with
 |BoolOp op es p=>
  induction op with
  |And=>exact bG.sim (EL I.togw R) λA Q E ι h=>nQ h|Or=>exact bG.sim (Jv I.togw R) λA Q E ι h=>nQ h
 |UnaryOp op a p=>
  induction op with
  |Not=>exact Oj I.togw R|_=>exact yT I.togw (gG d) rfl R
 |IfExp c a b p=>exact Th I.togw R|Compare a ops es p=>
  induction ops using a6 with
  |nil=>exact aN.bW|cons o ops=>
   induction ops using a6 with
   |nil=>
    induction es using a6 with
    |nil=>exact aN.bW|cons b es=>
     induction es using a6 with
     |nil=>exact xG λs=>Og H.toWi I.togw (gG d) s R|cons=>exact aN.bW
   |cons g ops=>
    induction ops using a6 with
    |cons=>exact aN.bW|nil=>
     induction es using a6 with
     |nil=>exact aN.bW|cons b es=>
      induction es using a6 with
      |nil=>exact aN.bW|cons c es=>
       induction es using a6 with
       |nil=>exact xG λs=>Hb H.toWi I.togw (gG d) s R|cons=>exact aN.bW
 |_=>exact yT I.togw (gG d) rfl R
theorem cU.up(h:cU G n xs k σ c rep t)(l:n<=m):cU G m xs k σ c rep t:=h.less l
theorem OM(H:qT G K T mm)(c:mm<=n)(h:8<=n)(C:Hn G T r n)(U:Bj G T r n)(I:oF G r n):oF G (Nr T r) (n+2) where
 ev:=λR=>OK H I C c h R
 tr:=λR=>(OL H I h R).less (bp n 2)
 ex:=λR=>(uM H I U h R).less (bp n 2)
noncomputable def eX(env:Env)(l:ab (Str×ff)):ab (Str×aB)->ab (Str×aB):=@cg (Str×ff) (λι=>ab (Str×aB)->ab (Str×aB)) (λcs=>cs)
 (λp ι i cs=>if (p.2==dA)=aq then@bl aB (λι=>ab (Str×aB)) cs (λa=>i ((p.1,a)::cs)) (env.cells.lookup p.1) else i cs) l
theorem yZ(hf:∀p∈scope.names,p.2=.free->(env.cells.lookup p.1).isSome=aq):Iz scope env=pure (eX env scope.names []):=by
 obtain⟨k,names,a,b,c⟩:=scope
 suffices H:∀(names:ab (Str×ff))(cs:ab (Str×aB)),(∀p∈names,p.2=.free->(env.cells.lookup p.1).isSome=aq)->
   (AY names cs λx c=>if (x.2==dA)=aq then(do let y<-cellOf env x.1;pure (hY ((x.1,y)::c))) else pure (hY c):Sem (ab (Str×aB)))=pure (eX env names cs) by
  have:=H names [] hf;exact aY (λm:Sem (ab (Str×aB))=>m>>=λr=>pure r) this
 intro names
 induction names with
 |nil=>intro cs _;rfl|cons p q i=>
  intro cs hf;rw[jU]
  by_cases h:(p.2==dA)=aq
  ·obtain⟨a,d⟩:=fq.mp (hf p ax (eF.mp h))
   have e:cellOf env p.1=pure a:=by unfold cellOf;rw[d]
   rw[bc h,e];show(AY q ((p.1,a)::cs) _:Sem (ab (Str×aB)))=pure (if (p.2==dA)=aq then@bl aB (λι=>ab (Str×aB)) cs (λa=>eX env q ((p.1,a)::cs)) (env.cells.lookup p.1) else eX env q cs)
   rw[bc h,d];exact i _ λp hp=>hf p (aK _ hp)
  ·rw[aU h]
   show(AY q cs _:Sem (ab (Str×aB)))=pure (if (p.2==dA)=aq then@bl aB (λι=>ab (Str×aB)) cs (λa=>eX env q ((p.1,a)::cs)) (env.cells.lookup p.1) else eX env q cs)
   exact(aU h)▸i _ λp hp=>hf p (aK _ hp)
theorem nU(names:ab (Str×ff)):∀(cs:ab (Str×aB)),(∀p∈cs,p∈env.cells)->∀p∈eX env names cs,p∈env.cells:=by
 induction names with
 |nil=>exactλcs h=>h|cons q names i=>
  intro cs h p hp
  by_cases d:(q.2==dA)=aq
  ·have e:eX env (q::names) cs=@bl aB (λι=>ab (Str×aB)) cs (λa=>eX env names ((q.1,a)::cs)) (env.cells.lookup q.1):=bc d
   rw[e]at hp
   induction c:env.cells.lookup q.1 with
   |some a=>
    rw[c]at hp;exact i _ (λp hp=>(aG.mp hp).elim (λe=>e▸mem_of_lookup c) (h p)) p hp
   |none=>rw[c]at hp;exact h p hp
  ·have e:eX env (q::names) cs=eX env names cs:=aU d
   exact i cs h p (e▸hp)
theorem j8(names:ab (Str×ff)):∀(cs:ab (Str×aB)),(∀p∈names,p.2=.free->(env.cells.lookup p.1).isSome=aq)->(∀x c,cs.lookup x=aa c->env.cells.lookup x=aa c)->
  (∀x c,(eX env names cs).lookup x=aa c->env.cells.lookup x=aa c)/\(∀x,((x,dA)∈names\/(cs.lookup x).isSome=aq)->((eX env names cs).lookup x).isSome=aq):=by
 induction names with
 |nil=>exactλcs ι h=>⟨h,λx d=>d.resolve_left qh⟩|cons q names g=>
  intro cs hf h;have t:=λp hp=>hf p (aK _ hp)
  by_cases f:(q.2==dA)=aq
  ·obtain⟨a,j⟩:=fq.mp (hf q ax (eF.mp f))
   have e:eX env (q::names) cs=eX env names ((q.1,a)::cs):=(bc f).trans (j▸rfl);have i:=g ((q.1,a)::cs) t λx c e=>by
    rw[dS]at e
    induction d:x==q.1 with
    |true=>
     rw[d]at e;obtain rfl:=af e;exact(eF.mp d)▸j
    |false=>rw[d]at e;exact h x c e
   rw[e];refine⟨i.1,λx d=>i.2 x ?_⟩;rw[dS];rcases d with d|d
   ·rcases aG.mp d with e|d
    ·right;rw[<-e];rw[DH];rfl
    ·exact .inl d
   ·right
    induction x==q.1 with
    |true=>rfl|false=>exact d
  ·have e:eX env (q::names) cs=eX env names cs:=aU f
   have i:=g cs t h;rw[e];refine⟨i.1,λx d=>i.2 x (d.imp (λd=>(aG.mp d).resolve_left λe:(x,dA)=q=>f (by rw[<-e];rfl)) id)⟩
theorem uN:∀{xs:ab ae}{n:ae},yn xs n=aq->n∈xs
 |a::r,n,h=>by
  have h:cS (au a n) aq (yn r n)=aq:=h
  induction e:au a n with
  |true=>exact(ay e)▸ax|false=>replace h:=e▸h;exact aK _ (uN h)
theorem JC:∀{xs:ab ae}{n:ae},n∈xs->yn xs n=aq
 |a::r,n,h=>by
  show cS (au a n) aq (yn r n)=aq;rcases aG.mp h with rfl|h
  ·rw[eL];rfl
  ·induction au a n with
   |true=>rfl|false=>exact JC h
theorem E1{α:Type}{f:α->aE}:∀{l:ab α},allB f l=aq->∀a∈l,f a=aq
 |b::r,h,a,c=>by
  have h:cS (f b) (allB f r) ai=aq:=h
  induction e:f b with
  |true=>
   replace h:=e▸h
   rcases aG.mp c with rfl|c
   ·exact e
   ·exact E1 h a c
  |false=>replace h:=e▸h;exact fT h
theorem tG(xs:ab ae):∀(re:aX)(n:ae)(v:V),c0 (jj xs re) n=aa v->n∉xs/\c0 re n=aa v
 |[],n,v,e=>b6 e|(y,w)::r,n,v,e=>by
  have key:∀{p:aX},c0 ((y,w)::p) n=if n=y then aa w else c0 p n:=by
   intro p;show@dD (λι=>ao V) (c0 p n) (aa w) (au n y)=_;rw[TR.js]
   by_cases h:n=y
   ·rw[bc h,cc h]
   ·rw[aU h,bw h]
  have e:c0 (cS (yn xs y) (jj xs r) ((y,w)::jj xs r)) n=aa v:=e;refine key▸?_
  induction c:yn xs y with
  |true=>
   rw[c]at e;obtain⟨d,f⟩:=tG xs r n v e;exact⟨d,by rw[aU (show ¬n=y fromλq=>d (by rw[q];exact uN c))];exact f⟩
  |false=>
   rw[c]at e;have e:c0 ((y,w)::jj xs r) n=aa v:=e;rw[key]at e
   by_cases h:n=y
   ·rw[bc h]at e⊢
    exact⟨(λq=>by rw[h]at q;exact fT (c.symm.trans (JC q))),e⟩
   ·rw[aU h]at e⊢
    exact tG xs r n v e
structure uO(sc:Sc)(xs:ab ae)(scope:jB):Prop where
 kind:scope.kind=.function
 loc:∀x,(x,ff.local)∈scope.names->scope.names.lookup x=aa .local/\∀n,fA x=aa n->n∈xs
 cell:∀x,(x,n0)∉scope.names
 free:∀x,(x,dA)∈scope.names->g_ sc x=aa .cell
theorem aec(h:aei o=aq):o=aa .local:=by
 induction o with
 |none=>exact fT h|some k=>
  induction k with
  |«local»=>rfl|_=>exact fT h
theorem aed(h:aep o=aq):o=aa .cell:=by
 induction o with
 |none=>exact fT h|some k=>
  induction k with
  |cell=>rfl|_=>exact fT h
theorem Ho(h:GC sc xs scope=aq):uO sc xs scope:=by
 have h:scope.kind=.function/\allB (XJ sc xs scope.names) scope.names=aq:=by
  unfold GC at h
  induction d:scope.kind with
  |function=>rw[d]at h;exact⟨rfl,h⟩|_=>rw[d]at h;exact fT h
 have all:=E1 h.2;refine⟨h.1,λx c=>?_,(λx c=>fT (all _ c:ai=aq)),λx c=>aed (all _ c)⟩;have f:=rQ (a:=aei (g_ scope.names x)) (b:=aet xs (fA x)) (all _ c);exact⟨by rw[<-kO];exact aec f.1,λn g=>uN (by have e:=f.2;rw[g]at e;exact e)⟩
theorem uP(env:Env):∀(names:ab (Str×ff))(x:Str),
  (names.map λ(n,k)=>if (k==dA&&env.scope.kind==.function&&env.kindOf n==aa .cell) then(n,n0) else(n,k)).lookup x=
   match names.lookup x with
   |some .free=>aa (if (env.scope.kind==.function&&env.kindOf x==aa .cell)=aq then .cell else .free)
   |k=>k
 |[],x=>rfl|(y,k)::r,x=>by
  have i:=uP env r x;show ab.lookup x ((if (k==dA&&env.scope.kind==.function&&env.kindOf y==aa .cell)=aq then(y,n0) else(y,k))::_)=_
  induction c:x==y with
  |true=>
   have e:=eF.mp c;subst e
   by_cases h:(k==dA&&env.scope.kind==.function&&env.kindOf x==aa .cell)=aq
   ·rw[bc h]
    simp only[dS,c];rw[d_,d_]at h;have d:=eF.mp h.1.1;subst d;rw[bc (by rw[d_];exact⟨h.1.2,h.2⟩)]
   ·rw[aU h]
    simp only[dS,c]
    induction k with
    |free=>
     rw[aU];intro q;apply h;simp only[d_]at q;simp only[d_,d_];exact⟨⟨rfl,q.1⟩,q.2⟩
    |_=>rfl
  |false=>
   by_cases h:(k==dA&&env.scope.kind==.function&&env.kindOf y==aa .cell)=aq
   ·rw[bc h];simp only[dS,c];exact i
   ·rw[aU h];simp only[dS,c];exact i
theorem uQ(ok:uO sc xs scope)(R:cB G k env sc re)(h:(x,dA)∈scope.names):env.kindOf x=aa .cell/\(env.cells.lookup x).isSome=aq:=by
 have:env.kindOf x=aa .cell:=by
  rcases R.kinds x _ (ok.free x h) with q|⟨q,_⟩
  ·exact q
  ·exact nomatch q
 exact⟨this,R.has x this⟩
set_option tactic.hygienic true in
theorem ON(ok:uO sc xs scope)(R:cB G k env sc re)(o:k.h.Ns C λι=>aw)(off: ¬adr k.ρ C/\G.X.h0.get? C=aw)(ne:∀p∈env.cells,p.2≠C):
  cB G k (A0 scope (eX env scope.names []) C env) scope.names (jj xs re):=by
 have f:∀x,(A0 scope (eX env scope.names []) C env).kindOf x=match scope.names.lookup x with
   |some .free=>aa (if (env.scope.kind==.function&&env.kindOf x==aa .cell)=aq then .cell else .free)
   |k=>k:=λx=>uP env scope.names x
 have sub:∀p∈eX env scope.names [],p∈env.cells:=nU _ _ λp hp=>sr hp;obtain⟨l1,l2⟩:=j8 scope.names [] (λp hp e=>(uQ ok R (by exact e▸hp)).2) (λx c e=>b6 e)
 have w:=tG xs re;have s:∀x,((A0 scope (eX env scope.names []) C env).kindOf x=aa .cell\/(A0 scope (eX env scope.names []) C env).kindOf x=aa .free)->(x,dA)∈scope.names:=λx d=>by
  rw[f x]at d
  split at d
  ·rename_i e;exact mem_of_lookup e
  ·rename_i e
   rcases d with d|d
   ·exact(ok.cell x (mem_of_lookup d)).elim
   ·exact mem_of_lookup d
 refine⟨ok.kind,R.glob,R.blt,λx k d=>?_,⟨_,o,λx n v d j g=>?_⟩,λp hp=>?_,λx n v d j g=>?_,off,λp hp q t e=>R.apart p (sub p hp) q (sub q t) e,λx d=>l2 x (.inl (s x (.inl d))),?_⟩
 ·have d:scope.names.lookup x=aa k:=by rw[<-kO];exact d
  simp only[f x,d]
  induction k with
  |free=>
   dsimp only
   split
   ·exact .inr ⟨rfl,rfl⟩
   ·exact .inl rfl
  |_=>exact .inl rfl
 ·exfalso
  rw[f x]at g
  split at g
  ·split at g<;>exact nomatch g
  ·have:=(ok.loc x (mem_of_lookup g)).2 n d
   exact((w n v j).1 this).elim
 ·refine ck λf=>?_
  obtain⟨a,b,c,_⟩:=R.cells p (sub p hp);exact f ⟨a,b,c,ne p (sub p hp)⟩
 ·have hf:=s x g
  refine ck λf=>?_;obtain⟨c,l⟩:=fq.mp (l2 x (.inl hf));obtain⟨y,u,e,i,r⟩:=R.qR x n v d (w n v j).2 (.inl (uQ ok R hf).1);obtain rfl:=af (e.symm.trans (l1 x c l));exact f ⟨_,u,l,i,r⟩
 ·show(scope.kind==.module&&_)=ai
  refine ok.kind▸?_;rfl
end
noncomputable abbrev Hp(i:ab aQ)(env:Env)(b:aE):Sem aE:=AY i b λc r=>if r=aq then do let ok<-isTrue c env (cn c env);pure (hY ok) else pure (hY r)
theorem E2(h:gens[d]? =aa g)(a:(g.is_async !=0)=ai):
  compTurn (.ListComp elt gens scope pos) d it acc env=(do
   ij g.iter.pos
   match<-Rj it with
   |none=>pure (.done .next)|some v=>
    ot g.target it v
    fx g.target env v
    let mut ok:=aq
    for c in g.ifs do
     if ok then ok<-isTrue c env (cn c env)
    if ok then
     match gens[d+1]? with
     |some g' =>
      let x<-cn g'.iter env
      ij g'.iter.pos
      let x<-if g'.is_async !=0 then foldedIterable g'.iter x else mf g'.iter env x
      let _<-runOwn (.compStart (.ListComp elt gens scope pos) (d+1) (<-dJ [x] (if g'.is_async !=0 then asyncIter x else kY x)) acc env) env
     |none=>(do let _<-call (.builtin "list.append") [acc,<-cn elt env])
    again (.compLoop (.ListComp elt gens scope pos) d it acc env)):=by
 unfold compTurn;dsimp only;rw[h];dsimp only;refine a▸?_;rfl
section
variable{prog:bS}{w:bU}{A:aW}{R:c8->ah->Prop}{s:ah}{elt:aQ}{gens:ab bX}{scope:jB}{pos:Pos}{d:ae}{it acc:ag}{env:Env}{g g' :bX}
abbrev NE(prog:bS)(w:bU)(A:aW)(env:Env)(R:c8->ah->Prop):ag->ah->Prop:=lE (bK prog w) A env λe a=>R (.error e) a
def Bl(prog:bS)(w:bU)(A:aW)(R:c8->ah->Prop)(elt:aQ)(gens:ab bX)(scope:jB)(pos:Pos)(d:ae)(acc:ag)(env:Env)(K:ah->Prop)(s:ah):Prop:=
 match gens[d+1]? with
 |some g' =>bk (bK prog w) A (cn g'.iter env) (λx a=>(g'.is_async !=0)=ai/\mf g'.iter env x=pure x/\bk (bK prog w) A (kY x) (λi b=>
   dg (bK prog w) (A.mark aw) (.compStart (.ListComp elt gens scope pos) (d+1) i acc env) (λr c=>match r with|.ok _=>K c|.error e=>gJ (bK prog w) A env (NE prog w A env R) e c) b) (NE prog w A env R) a) (NE prog w A env R) s
 |none=>bk (bK prog w) A (cn elt env) (λx a=>bk (bK prog w) A (call (.builtin "list.append") [acc,x]) (λι b=>K b) (NE prog w A env R) a) (NE prog w A env R) s
def tH(p:bS)(a:bU)(b:aW)(c:c8->ah->Prop)(l:aQ)(n:ab bX)(o:jB)(i:Pos)(j:ae)(t:ag)(k:ag)(m:Env)(q:bX):Prop:=∀{s:ah}(y:n[j]? =aa q)(z:(q.is_async !=0)=ai)(turn:bk (bK p a) b (Rj t) (λr e=>match r with
   |none=>c (.ok .next) e|some v=>bk (bK p a) b (ot q.target t v) (λι h=>bk (bK p a) b (fx q.target m v) (λι u=>
     bk (bK p a) b (Hp q.ifs m aq) (λok f=>
      if ok=aq then Bl p a b c l n o i j k m (λx=>dg (bK p a) b (.compLoop (.ListComp l n o i) j t k m) c x) f
      else dg (bK p a) b (.compLoop (.ListComp l n o i) j t k m) c f) (NE p a b m c) u) (NE p a b m c) h) (NE p a b m c) e) (NE p a b m c) s),dg (bK p a) b (.compLoop (.ListComp l n o i) j t k m) c s
def y3:=λx:((_×_×_)×_×_×_)×(_×_×_)×(_×_)×_×_=>tH x.1.1.1 x.1.1.2.1 x.1.1.2.2 x.1.2.1 x.1.2.2.1 x.1.2.2.2 x.2.1.1 x.2.1.2.1 x.2.1.2.2 x.2.2.1.1 x.2.2.1.2 x.2.2.2.1 x.2.2.2.2
def fc:=haveI:=iG;haveI:=eI;qy bB y3
namespace y4
def p:=fc.1.1.1
def a:=fc.1.1.2.1
def b:=fc.1.1.2.2
def c:=fc.1.2.1
def l:=fc.1.2.2.1
def n:=fc.1.2.2.2
def o:=fc.2.1.1
def i:=fc.2.1.2.1
def j:=fc.2.1.2.2
def t:=fc.2.2.1.1
def k:=fc.2.2.1.2
def m:=fc.2.2.2.1
def q:=fc.2.2.2.2
theorem ok:tH p a b c l n o i j t k m q:=by
 intro s M N turn;refine dN rfl ?_;show bk _ b ((compTurn (.ListComp l n o i) j t k m).onRaise (λx=>do i9 x m;oq x)) _ _ s
 refine rm ?_;refine(E2 M N)▸?_;refine aj (a8 (aj (aI turn (λr E z=>?_) λι ι h' =>h')))
 induction r with
 |none=>exact aO z|some v=>
  refine aj (aI z (λι E z=>?_) λι ι h' =>h');refine aj (aI z (λι J F=>aj (aI F (λok G u=>?_) λι ι h' =>h')) λι ι h' =>h')
  induction ok with
  |false=>exact aO ⟨rfl,u⟩|true=>
   have u:Bl p a b c l n o i j k m (λC=>dg (bK p a) b (.compLoop (.ListComp l n o i) j t k m) c C) G:=u;unfold Bl at u
   induction L:n[j+1]? with
   |none=>
    replace u:=L▸u
    exact aj (aj (aI u (λx H y=>aj (aI y (λι C D=>aO (aO ⟨rfl,D⟩)) λι ι h' =>h')) λι ι h' =>h'))
   |some g' =>
    rw[L]at u;dsimp only at u⊢;refine aj (aI u (λx H y=>?_) λι ι h' =>h');obtain⟨I,hf,y⟩:=y;simp only[I,ft,pP];rw[hf];refine aj (a8 (aj (aO (aj (aP (aI y (λO C D=>aj (tp (ph D λr P h=>?_) nofun)) λι ι h' =>h'))))))
    induction r with
    |error e=>exact h|ok f=>first|exact aO ⟨rfl,h⟩|exact aO (aO ⟨rfl,h⟩)
end y4
theorem Bm:tH prog w A R elt gens scope pos d it acc env g:=@d5 _ _ y3 @y4.ok (((prog,w,A),R,elt,gens),(scope,pos,d),(it,acc),env,g)
theorem mY(b:gens[d]? =aa g)(f:(g.is_async !=0)=ai)(c:dg (bK prog w) A (.compLoop (.ListComp elt gens scope pos) d it acc env) R s)(h:bk (bK prog w) A (kY it) (λi a=>dg (bK prog w) A (.compLoop (.ListComp elt gens scope pos) d i acc env) R a) (lE (bK prog w) A env λx a=>R (.error x) a) s):
  dg (bK prog w) A (.compStart (.ListComp elt gens scope pos) d it acc env) R s:=by
 refine dN rfl ?_;show bk _ _ ((compStart (.ListComp elt gens scope pos) d it acc env).onRaise (λx=>do i9 x env;ij theWindowsPlace)) _ _ s
 refine D8 ?_;show bk _ _ (if ((gens[d]?).elim ai (·.is_async !=0))=aq then _ else _) _ _ s
 rw[b,aU (by show ¬((g.is_async !=0)=aq);refine f▸?_;decide)]
 show bk _ _ (ask>>=_) _ _ s;refine aj (aT (wpAny_askSetting ?_))
 split
 ·first
   |exact aj (aO (aO (And.intro rfl c)))
   |exact aO (And.intro rfl c)
 ·refine aj (lD ?_)
  exact(b:(clausesOf (.ListComp elt gens scope pos))[d]? =aa g)▸aj (a8 (aj (aI h (λi a h' =>aO (And.intro rfl h')) λι ι e=>e)))
end
section
variable{G:Gm}{K:jT}{T:Tab}{mm n m:ae}{k k' :Kf}{σ:St}{r:Rec}{sc:Sc}{re lK:aX}{env:Env}{pos:Pos}{v a b:V}{u u1 u2:ag}
theorem xh:∀(i:ab aQ),Hp i env ai=pure ai
 |[]=>rfl|c::i=>by
  show(AY (c::i) ai _:Sem aE)=_;rw[jU,aU (by decide)]
  exact xh i
theorem Bn(I:gw G r n):∀{es:ab aQ}{k:Kf}{σ:St},cB G k env sc re->aN G n k σ (th r sc re es) RB (Hp es env aq)
 |[],k,σ,R=>aN.pure (rep:=RB) rfl|e::es,k,σ,R=>λx τ he S A Q E j q=>by
  have he:mx (r.tr sc e re) (th r sc re es) (rt ai) σ=aa (x,τ):=he;refine ck λi=>?_;obtain⟨t,f,e1,e2⟩:=br he;refine i ?_;show bk _ A (AY (e::es) aq _) _ _ _;rw[jU,bc rfl];refine aj (aj (I.tr R t f e1 S A _ E j λp k₁ l c o=>aO ?_));clear he;clear e1;subst o
  induction t with
  |true=>exact Bn I (R.mono l) x τ e2 c A Q E j λy g h=>q y g (l.trans h)|false=>
   refine ck λi=>?_;obtain⟨rfl,rfl⟩:=av (af e2);refine i ?_;exact fE (xh es) (q ai k₁ l c rfl)
theorem JD{h:bJ}(p:h.PlainList D ys):∀us,¬h.IsTuple D us:=by
 obtain⟨k,e⟩:=p;rintro us ⟨o,c,f,_⟩;obtain rfl:=af (e.symm.trans c);simp at f
theorem Bo(p:h.PlainList D ys):EC h D:=have ⟨k,e⟩:=p;⟨_,e,.inr (.inr (.inl rfl))⟩
structure CI(G:Gm)(D:aB)(cenv:Env)(names:Sc)(k:Kf)(re:aX)(acc:V)(ys:ab ag):Prop where
 env:cB G k cenv names re
 lst:k.h.PlainList D ys.reverse.toArray
 rep:RL G k acc ys
 off: ¬adr k.ρ D
 h0:G.X.h0.get? D=aw
 nf:D∉cy cenv
variable{D:aB}{cenv:Env}{names:Sc}{acc:V}{ys:ab ag}
theorem CI.le(c:CI G D cenv names k re acc ys)(l:Le k k'):CI G D cenv names k' re acc ys:=
 ⟨c.env.mono l,c.lst.at λo e=>l.keep D o e c.off gL,c.rep.mono l NT.nil,have ⟨_,e⟩:=c.lst;l.off e c.off,c.h0,c.nf⟩
theorem CI.sa(c:CI G D cenv names k re acc ys):∀a∈[D,cenv.locals],EC k.h a:=λa e=>by
 rcases aG.mp e with rfl|e
 ·exact(Bo c.lst)
 ·rw[aJ]at e;subst e;exact c.env.sa _ ax
theorem CI.iter{wr:ab aB}{h' :bJ}{tk:ae}(c:CI G D cenv names k re acc ys)(S:SR G k σ)(f:∀b o,b∉wr->k.h.get? b=aa o->h'.get? b=aa o)(off:∀a∈wr,OffI G.X k.ρ k.h a):SR G ⟨k.ρ,h',tk⟩ σ/\CI G D cenv names ⟨k.ρ,h',tk⟩ re acc ys:=by
 obtain⟨g,R⟩:=vZ (tk:=tk) S c.env f off;exact⟨g,R,c.lst.at λo e=>f D o (λq=>(off D q).nf (Bo c.lst)) e,⟨c.rep.lst,c.rep.rep.but f λa us i=>(off a i).nt us⟩,c.off,c.h0,c.nf⟩
theorem CI.bind(c:CI G D cenv names k re acc ys)(g:bY k.ρ k.h k'.ρ k'.h [cenv.locals])(R:cB G k' cenv names lK):CI G D cenv names k' lK acc ys:=by
 have nt:NT k.h [cenv.locals]:=λa f=>by rw[aJ]at f;subst f;exact c.env.nt _ ax
 have i:D∉[cenv.locals]:=λq=>by rw[aJ]at q;subst q;exact c.nf ax
 exact⟨R,c.lst.at λo e=>g.keep D o e c.off i,c.rep.mono g nt,have ⟨_,e⟩:=c.lst;g.off e c.off,c.h0,c.nf⟩
theorem Yi{a:aB}(h:a∈[cenv.locals]):a∈[D,cenv.locals]:=aK _ h
theorem stLoc(f:∀x,g_ names x≠aa .cell)(R:cB G k cenv names re):xF cenv names [cenv.locals]:=by
 have loc:∀y m,ip names y=aa m->cenv.kindOf y=aa .local:=λy m h=>by
  unfold ip at h
  induction c:g_ names y with
  |none=>exact b6 (c▸h)|some g=>
   rw[c]at h;rcases g
   case «local»=>rcases R.kinds y _ c with z|⟨z,_⟩;exact z;exact nomatch z
   case cell=>exact(f y c).elim
   all_goals exact b6 h
 exact⟨fQ _,.inl loc,λa e=>by rw[aJ]at e;subst e;exact ax⟩
def y5(G:Gm)(n:ae)(elt:aQ)(gens:ab bX)(scope:jB)(pos:Pos)(D:aB)(cenv:Env)(d:ae)(i:aX->V->Rm (aX×V)):Prop:=
 ∀{re acc k σ ys},CI G D cenv scope.names k re acc ys->∀p τ,i re acc σ=aa (p,τ)->SR G k σ->∀A(R:c8->ah->Prop)(c:ah->Prop),el A n->
  (∀k' y,bY k.ρ k.h k'.ρ k'.h ([D,cenv.locals])->SR G k' τ->CI G D cenv scope.names k' p.1 p.2 y->c (sh G.b k'))->Bl PW G.w A R elt gens scope pos d (.ref D) cenv c (sh G.b k)
variable{elt:aQ}{gens:ab bX}{scope:jB}{d:ae}
theorem rH(nc:∀x,g_ scope.names x≠aa .cell)(I:gw G r n)(h1:1<=n){g:bX}(hg:gens[d]? =aa g)(Q:(g.is_async !=0)=ai){xs:ab ae}(ht:dr scope.names g.target=aa xs){f:aX->V->Rm (aX×V)}(B:y5 G n elt gens scope pos D cenv d f){I0:aB}{wr:ab aB}{CS:fO->bJ->It->Prop}{CR:ag->fO->bJ->It->Prop}(IO:pD G.X G.w I0 wr CS CR){k0:Kf}(cP:∀a∈wr,k0.h.get? a=aw):
  ∀(m:ae){i:It}{re:aX}{acc:V}{k:Kf}{σ:St}{ys:ab ag},CI G D cenv scope.names k re acc ys->CS k.ρ k.h i->bY k0.ρ k0.h k.ρ k.h ([D,cenv.locals])->∀p τ,gx r scope.names xs g.ifs f m i re acc σ=aa (p,τ)->SR G k σ->∀A(R:c8->ah->Prop),el A n->
   (∀k' ys',bY k0.ρ k0.h k'.ρ k'.h ([D,cenv.locals])->SR G k' τ->CI G D cenv scope.names k' p.1 p.2 ys'->R (.ok .next) (sh G.b k'))->dg (Md G.w) A (.compLoop (.ListComp elt gens scope pos) d (.ref I0) (.ref D) cenv) R (sh G.b k)
 |0,_,_,_,_,_,_,_,_,_,_,_,e,_,_,_,_,_=>b6 e|m+1,i,re,acc,k,σ,ys,c,st,gr,p,τ,e,S,A,R,RA,q=>by
  have e:Aa i (rt (re,acc)) (λv j=>opt (d9 xs j v re) λre1=>mx (th r scope.names re1 g.ifs) (b8 (f re1 acc) λp=>gx r scope.names xs g.ifs f m j p.1 p.2) (gx r scope.names xs g.ifs f m j re1 acc)) σ=aa (p,τ):=e;rcases uK e with⟨hn,ez⟩|⟨v,j,hn,ef⟩
  ·refine ck λy=>?_
   obtain⟨rfl,rfl⟩:=av (af ez);refine y ?_;refine Bm hg Q (IO.next st S hn (RA.less h1) λh' tk y=>?_);obtain⟨S',c'⟩:=c.iter (tk:=tk) S y (IO.off st);exact q ⟨k.ρ,h',tk⟩ ys (gr.iter y cP) S' c'
  ·induction hb:d9 xs j v re with
   |none=>replace ef:=hb▸ef;exact b6 ef|some l=>
    rw[hb]at ef;refine ck λy=>?_;obtain⟨t,z,e1,e2⟩:=br (ef:mx (th r scope.names l g.ifs) (b8 (f l acc) λp=>gx r scope.names xs g.ifs f m j p.1 p.2) (gx r scope.names xs g.ifs f m j l acc) σ=aa (p,τ));refine y ?_;refine Bm hg Q (IO.next st S hn (RA.less h1) λu ad7 L U ad3 ru mid=>?_);refine IO.go mid ru (λn k e=>yV ht (((tE hb).2) n k e)) λM W Y Z=>?_;have y:∀b o,b∉wr->k.h.get? b=aa o->M.get? b=aa o:=λb o nb e=>W b o nb (U b o nb e);obtain⟨ac6,s⟩:=c.iter (tk:=L) S y (IO.off st);refine EU (stLoc nc s.env) (k:=⟨k.ρ,M,L⟩) ht ((tE hb).1) s.env Y _ σ rfl ac6 A _ _ RA λι ac7 C Hg yX=>?_;have aaS:=IO.frame Z C (λa Q=>by rw[aJ]at Q;subst Q;exact s.env.sa _ ax)
    have N:=s.bind C yX;refine Bn I N.env t z e1 Hg A _ _ RA λt' ad8 E O ht' =>?_;subst ht';have F:=IO.frame aaS E (λa h=>sr h);have H:=N.le E;have J:=((gr.iter y cP).trans (C.weaken λa h=>Yi h)).trans E.wk
    induction t with
    |false=>
     rw[aU bM];exact rH nc I h1 hg Q ht B IO cP m H F J p τ e2 O A R RA q
    |true=>
     rw[bc rfl];refine ck λy=>?_;obtain⟨ac8,JB,e3,e4⟩:=br (e2:b8 (f l acc) (λp=>gx r scope.names xs g.ifs f m j p.1 p.2) z=aa (p,τ));refine y ?_;refine B H ac8 JB e3 O A R _ RA λaaP ad4 P Yf ac9=>?_;exact rH nc I h1 hg Q ht B IO cP m ac9 (IO.frame F P H.sa) (J.trans P) p τ e4 Yf A R RA q
end
section
variable{G:Gm}{K:jT}{T:Tab}{mm n m:ae}{k k' :Kf}{σ:St}{r:Rec}{sc:Sc}{re lK:aX}{env:Env}{pos:Pos}{v a b:V}{u u1 u2:ag}
theorem qo.but{X:Ctx}{ρ:fO}{h h' :bJ}{wr:ab aB}(R:qo X ρ h env sc re)(g:∀b o,b∉wr->h.get? b=aa o->h'.get? b=aa o)(nf:∀a∈cy env,a∉wr)(mono:∀{x:V}{v:ag}{vs:ab ag},Rep X ρ h x v vs->Rep X ρ h' x v vs):qo X ρ h' env sc re:=by
 obtain⟨m,l,q⟩:=R.ns;have C:∀p∈env.cells,p.2∉wr:=λp hp=>nf _ (aK _ (cE (f:=(·.2)) hp));refine⟨R.kind,R.glob,R.blt,R.kinds,⟨m,l.at' λo e=>g _ o (nf _ ax:env.locals∉wr) e,λx n v a b c=>?_⟩,λp hp=>?_,λx n v a b c=>?_,R.off,R.apart,R.has,R.norm⟩
 ·refine ck λg=>?_
  obtain⟨u,s,r⟩:=q x n v a b c;refine g ?_;exact⟨u,s,mono r⟩
 ·obtain⟨⟨v,o,i,j⟩,a,b,c⟩:=R.cells p hp
  exact⟨⟨v,o,g _ o (C p hp) i,j⟩,a,b,c⟩
 ·obtain⟨c,u,e,⟨o,i,j⟩,r⟩:=R.qR x n v a b c
  exact⟨c,u,e,⟨o,g _ o (C (x,c) (mem_of_lookup e)) i,j⟩,mono r⟩
variable{D:aB}{cenv:Env}{names:Sc}{acc:V}{ys:ab ag}
theorem CI.append{h' :bJ}{tk:ae}(c:CI G D cenv names k re acc ys)(S:SR G k σ)(j:RV G k v u)(pl:h'.PlainList D (ys.reverse.toArray.push u))(s:dy D k.h h'):
  SR G ⟨k.ρ,h',tk⟩ σ/\CI G D cenv names ⟨k.ρ,h',tk⟩ re (.cons v acc) (u::ys)/\bY k.ρ k.h k.ρ h' ([D,cenv.locals]):=by
 have i:∀b o,b∉[D]->k.h.get? b=aa o->h'.get? b=aa o:=λb o f e=>(s.2 b (λq=>f (q▸fQ _))).trans e;have nt:=JD c.lst;have live:∀b o,k.h.get? b=aa o->∃o',h'.get? b=aa o' :=λb o e=>by
  by_cases q:b=D
  ·obtain⟨_,l⟩:=pl;exact q▸⟨_,l⟩
  ·exact⟨o,(s.2 b q).trans e⟩
 have mono:∀{x:V}{v:ag}{vs:ab ag},Rep G.X k.ρ k.h x v vs->Rep G.X k.ρ h' x v vs:=λr=>Rep.same (λb o f e=>(s.2 b f).trans e) nt r;refine⟨h5.frame S (xs:=[D]) (λa g=>by rw[aJ]at g;cases g;exact⟨c.off,c.h0,nt,let ⟨_,e⟩:=c.lst;eO e λι q=>nomatch q⟩) live i,⟨c.env.but i (λa g q=>by rw[aJ]at q;cases q;exact c.nf g) mono,?_,⟨c.rep.lst,u,ys,rfl,mono j,mono c.rep.rep⟩,c.off,c.h0,c.nf⟩,bY.heap live λb o f ι e=>i b o (λq=>by rw[aJ]at q;subst q;exact f ax) e⟩
 rw[show(u::ys).reverse.toArray=ys.reverse.toArray.push u by simp]
 exact pl
variable{elt:aQ}{gens:ab bX}{scope:jB}{d:ae}
theorem OO(I:gw G r n)(z:gens[d+1]? =aw):y5 G n elt gens scope pos D cenv d (kK r scope.names elt []):=λ{re acc k σ ys}c p τ e S A R F C q=>by
 have e:b8 (r.ev scope.names elt re) (λv=>eB (r5 acc) (rt (re,V.cons v acc))) σ=aa (p,τ):=e;refine ck λx=>?_;obtain⟨v,y,e1,e2⟩:=br e;refine x ?_
 induction hf:r5 acc with
 |false=>replace e2:=hf▸e2;exact b6 e2|true=>
  replace e2:=hf▸e2
  clear e;clear e;obtain⟨rfl,rfl⟩:=av (af e2);unfold Bl;refine z▸?_;refine I.ev c.env v _ e1 S A _ _ C λu k₁ l i E=>?_;have f:=c.le l;have len:ys.length<=4096:=by rw[hA c.rep];exact ble hf
  refine aT<|wpAny_list_append_plain (s:=sh G.b k₁) (hsz:=by simp;exact bq len (by decide)) f.lst λj g h=>?_
  refine ck λx=>?_;obtain⟨o,t,w⟩:=f.append (tk:=k₁.tk) i E g h;refine x ?_;exact q ⟨k₁.ρ,j,k₁.tk⟩ (u::ys) (l.wk.trans w) o t
theorem Lc(O:∀x,g_ scope.names x≠aa .cell)(H:qT G K T mm)(I:gw G r n)(P:8<=n)(C:gens[d+1]? =aa g)(B:y5 G n elt gens scope pos D cenv (d+1) (kK r scope.names elt z)):
  y5 G n elt gens scope pos D cenv d (kK r scope.names elt (g::z)):=λ{re acc k σ ys}c p τ e S A R L RA q=>by
 have e:eB (g.is_async==0) (opt (dr scope.names g.target) λxs=>b8 (la r scope.names g.iter re) λi=>gx r scope.names xs g.ifs (kK r scope.names elt z) hM i re acc) σ=aa (p,τ):=e
 induction E:g.is_async==0 with
 |false=>exact b6 (E▸e)|true=>
  rw[E]at e;have f:(g.is_async !=0)=ai:=by unfold bne;refine E▸?_;rfl
  induction F:dr scope.names g.target with
  |none=>replace e:=F▸e;exact b6 e|some xs=>
   rw[F]at e;have e:b8 (la r scope.names g.iter re) (λi=>gx r scope.names xs g.ifs (kK r scope.names elt z) hM i re acc) σ=aa (p,τ):=e;refine ck λJ=>?_;obtain⟨i,j,e1,e2⟩:=br e;have Q:dU (isSet g.iter)=aq:=by
    induction h:dU (isSet g.iter) with
    |true=>rfl|false=>unfold la at e1;exact b6 (h▸e1)
   refine J ?_;unfold Bl;refine C▸?_;refine aI (JA H I P c.env i j e1 S A (λt s=>dg (Md G.w) (A.mark aw) (.compStart (.ListComp elt gens scope pos) (d+1) t (.ref D) cenv) (λr o=>match r with|.ok _=>L o|.error e=>gJ (Md G.w) A cenv (NE PW G.w A cenv R) e o) s) (NE PW G.w A cenv R) RA λt k₁ l y U=>?_) (λx M h=>⟨f,oG Q x,h⟩) λι ι e=>e
   refine ck λJ=>?_;obtain⟨Y,wr,W,X,rfl,IO,st,cP⟩:=U;have N:=rH O I (by lia) C f F B IO (k0:=k) cP hM (c.le l) st l.wk p τ e2 y (A.mark aw) (λr o=>match r with|.ok _=>L o|.error e=>gJ (Md G.w) A cenv (NE PW G.w A cenv R) e o) RA.mark q
   refine J ?_;exact mY C f N (aT (IO.self st N))
end
section
variable{G:Gm}{K:jT}{T:Tab}{mm n m:ae}{k k' :Kf}{σ:St}{r:Rec}{sc:Sc}{re lK:aX}{env:Env}{pos:Pos}{v a b:V}{u u1 u2:ag}
variable{D:aB}{cenv:Env}{elt:aQ}{gens:ab bX}{scope:jB}{d:ae}
theorem E3(c:∀x,g_ scope.names x≠aa .cell)(H:qT G K T mm)(I:gw G r n)(e:8<=n):∀(q:ab bX)(d:ae),gens.drop (d+1)=q->y5 G n elt gens scope pos D cenv d (kK r scope.names elt q)
 |[],d,h=>OO I (c_ (s9.mp h))|g::f,d,h=>by
  have i:gens[d+1]? =aa g:=by
   have:=aY (·[0]?) h;simpa using this
  have j:gens.drop (d+1+1)=f:=by
   have:=aY (F' 1) h;simpa[nM] using this
  exact Lc c H I e i (E3 c H I e f (d+1) j)
theorem Bp(H:qT G K T mm)(I:gw G r n)(h8:8<=n)(ok:uO sc ys scope)(ha:(g.is_async !=0)=ai)(ht:dr scope.names g.target=aa xs)(R:cB G k env sc re):
  ∀v τ,b8 (la r sc g.iter re) (λi=>b8 (gx r scope.names xs g.ifs (kK r scope.names elt q) hM i (jj ys re) .nil) λp=>qj (lX p.2 .nil)) σ=aa (v,τ)->SR G k σ->∀A E(RR:ag->aB->c8->ah->Prop),el A n->
   (∀D C k',Le k k'->SR G k' τ->RV G k' v (.ref D)->k.h.get? C=aw->¬adr k'.ρ C->(∃m,k'.h.Ns C m)->RR (.ref D) C (.ok .next) (sh G.b k'))->
   bk (Md G.w) A (cn g.iter env) (λx X=>bk (Md G.w) A (kY x) (λO t=>bk (Md G.w) A (DL []) (λacc Y=>bk (Md G.w) A (pQ scope env.globals (eX env scope.names []) [] env.qual aw .none (aa env)) (λcenv Z=>
    dg (Md G.w) A (.compStart (.ListComp elt (g::q) scope pos) 0 O acc {cenv with scope:=AU scope env}) (RR acc cenv.locals) Z) E Y) E t) E X) E (sh G.b k):=λv τ e S A E RR RA qq=>by
 refine ck λkk=>?_;obtain⟨i,F,e1,e2⟩:=br e;obtain⟨p,P,e3,e4⟩:=br e2;refine kk ?_;refine JA H I h8 R i F e1 S A (λO t=>bk (Md G.w) A (DL []) _ E t) E RA λO k₁ l qU hi=>?_;refine ck λkk=>?_;obtain⟨I0,wr,CS,CR,rfl,IO,Q,cP⟩:=hi;refine kk ?_;have nc:∀x,g_ scope.names x≠aa .cell:=λx e=>ok.cell x (mem_of_lookup (by rw[<-kO];exact e))
 refine aT<|wpAny_newObj_type (aT<|wpAny_newFunctionEnv (λy hy e=>ok.cell y.1 (by exact e▸hy):∀y∈scope.names,y.2≠.cell) (by intro y hy;exact sr hy) (λc f s=>?_) ok.kind)
 generalize U:k₁.h.push {cls:=.type "list",dict:=aw,data:=.seq ([]:ab ag).toArray}=H2 at f s⊢;have hC:H2.objs.size=k₁.h.objs.size+1:=by rw[<-U,Ca]
 have W:k₁.h.objs.size≠H2.objs.size:=by rw[hC];exact df (z9 _)
 have old:∀b o,k₁.h.get? b=aa o->c.get? b=aa o:=λb o e=>s.extBut b o (by rw[hC];exact df (k_ (eG e))) (bf _ (U▸bf _ e))
 have fD:k₁.h.get? k₁.h.objs.size=aw:=cO (aF _);have fC:k₁.h.get? H2.objs.size=aw:=cO (by rw[hC];exact fa _)
 have zD:=gI l.live fD;have zC:=gI l.live fC;have J:Le k₁ ⟨k₁.ρ,c,k₁.tk+([]:ab (Str×ag)).length⟩:=bY.old old;have N:=qU.cP fD;have Hq:=R.mono l;have ada:=ON (C:=H2.objs.size) ok (Hq.mono J) f (qU.cP fC) λp hp e=>by
  obtain⟨⟨v,o,ho,_⟩,_⟩:=Hq.cells p hp;exact b6 (fC.symm.trans (e▸ho))
 have nfD:k₁.h.objs.size∉cy (A0 scope (eX env scope.names []) H2.objs.size env):=λq=>by
  rcases aG.mp q with q|q
  ·exact W q
  ·obtain⟨p,hp,e⟩:=bF.mp q
   obtain⟨⟨v,o,ho,_⟩,_⟩:=Hq.cells p ((nU _ _ λp hp=>sr hp:∀p∈eX env scope.names [],p∈env.cells) p hp);exact b6 (fD.symm.trans (e▸ho))
 have L:=IO.frame Q J (λa h=>sr h);have lp:=rH (gens:=g::q) (d:=0) nc I (by lia) rfl ha ht (E3 (elt:=elt) (pos:=pos) (gens:=g::q) nc H I h8 q 0 rfl) IO (k0:=k) cP hM (⟨ada,(⟨_,s.extBut _ _ W (bf _ (U▸bA _ rfl))⟩:c.PlainList k₁.h.objs.size #[]),⟨trivial,rfl⟩,N.1,N.2,nfD⟩:CI G k₁.h.objs.size (A0 scope (eX env scope.names []) H2.objs.size env) scope.names ⟨k₁.ρ,c,k₁.tk+([]:ab (Str×ag)).length⟩ (jj ys re) .nil []) L ((l.trans J)).wk p P e3 (qU.keeps old:SR G ⟨k₁.ρ,c,k₁.tk+([]:ab (Str×ag)).length⟩ F) A (RR (.ref k₁.h.objs.size) H2.objs.size) RA λk' vs g' S' M=>by
  have gg:Le k k' :=bY.drop (bY.refl _ _ []) g' λx hx=>by
   rcases aG.mp hx with rfl|hx
   ·exact zD
   ·rw[aJ]at hx;subst hx;exact zC
  induction hf:r5 (lX p.2 .nil) with
  |false=>unfold qj at e4;exact b6 (hf▸e4)|true=>
   unfold qj at e4
   replace e4:=hf▸e4
   refine ck λkk=>?_;obtain⟨hs,rfl,rfl⟩:=ox e4;have nt:=JD M.lst;obtain⟨j,ej⟩:=M.lst;have rr:RL G k' (lX p.2 .nil) vs.reverse:=by
    have:=Eu (acc:=.nil) (ws:=[]) M.rep ⟨trivial,rfl⟩;rwa[dj]at this
   refine kk ?_;have len:vs.reverse.length<=4096:=by rw[hA rr];exact ble hf
   obtain⟨hp,S''⟩:=h5.label S' (p:=(k₁.h.objs.size,k₁.h.objs.size)) hs M.off M.off M.h0 M.h0 nt nt ⟨_,ej⟩ ⟨_,ej⟩ λup=>⟨rfl,vs.reverse,j,len,ej,rr.lst,up rr.rep⟩;refine qq k₁.h.objs.size H2.objs.size ⟨k'.ρ++[(k₁.h.objs.size,k₁.h.objs.size)],k'.h,k'.tk⟩ ⟨?_,gg.mq,gg.live⟩ S'' ⟨_,hp,rfl⟩ zC (λz=>?_) (let ⟨m,hm,_⟩:=M.env.ns;⟨m,hm⟩)
   ·obtain⟨q1,e5,hq⟩:=gg.pre
    refine⟨q1++[(k₁.h.objs.size,k₁.h.objs.size)],by show k'.ρ++_=_;rw[e5,eo],λp hp=>?_⟩
    rcases bE.mp hp with hp|hp
    ·exact hq p hp
    ·rw[aJ]at hp;subst hp;exact⟨zD,zD⟩
   ·rw[kM]at z
    rcases z with z|z|⟨p',hp',z⟩
    ·exact M.env.off.1 z
    ·exact M.env.off.1 (.inl z)
    ·rw[aJ]at hp';subst hp'
     rcases z with z|z<;>exact W z.symm
 exact mY (g:=g) rfl ha lp (aT (IO.self L lp))
end
section
variable{G:Gm}{K:jT}{T:Tab}{mm n m:ae}{k k' :Kf}{σ:St}{r:Rec}{sc:Sc}{re lK:aX}{env:Env}{pos:Pos}{v a b:V}{u u1 u2:ag}
theorem gone(S:SR G k' σ)(g:bY k.ρ k.h k'.ρ k'.h xs)(s:dy C k'.h h')(j:∃m,k'.h.Ns C m)(l:k.h.get? C=aw)(off: ¬adr k'.ρ C)(t:G.X.h0.get? C=aw):
  SR G ⟨k'.ρ,h',tk⟩ σ/\bY k.ρ k.h k'.ρ h' xs/\∀{x:V}{v:ag}{vs:ab ag},Rep G.X k'.ρ k'.h x v vs->Rep G.X k'.ρ h' x v vs:=by
 have nt:∀us,¬k'.h.IsTuple C us:=by
  refine ck λd=>?_;obtain⟨m,o,es,ep,f,i,_⟩:=j;refine d ?_;exact pC f λι ι q=>nomatch i.symm.trans q
 have d:∀b o,b≠C->k'.h.get? b=aa o->h'.get? b=aa o:=λb o ne e=>(s.2 b ne).trans e;have ne:∀b o,k.h.get? b=aa o->b≠C:=λb o e q=>b6 ((q▸l).symm.trans e);have mono:∀{x:V}{v:ag}{vs:ab ag},Rep G.X k'.ρ k'.h x v vs->Rep G.X k'.ρ h' x v vs:=λr=>Rep.same d nt r;have L:∀{p:aB×aB},p∈k'.ρ->(∀x,k'.h.get? p.1=aa x->h'.get? p.1=aa x)/\∀x,k'.h.get? p.2=aa x->h'.get? p.2=aa x:=λhp=>
  ⟨λx e=>d _ x (λq=>off (.inr ⟨_,hp,.inl q.symm⟩)) e,λx e=>d _ x (λq=>off (.inr ⟨_,hp,.inr q.symm⟩)) e⟩
 exact⟨S.moved (λb o e=>d b o (λq=>nomatch (q▸t).symm.trans e) (S.base b o e)) (λp hp=>L hp) mono (λb o e c=>d b o (λq=>by
  obtain⟨m,od,es,ep,f,i,_⟩:=j;exact eO f (λι z=>nomatch i.symm.trans z) o (q▸e) c) e),
  ⟨g.pre,λb o e n w=>d b o (ne b o e) (g.mq b o e n w),λb o e=>let ⟨o',y⟩:=g.live b o e;⟨o',d b o' (ne b o e) y⟩⟩,mono⟩
theorem Wm(h:(gA g w).f T r re σ=aa p):g=aq/\w.f T r re σ=aa p:=by
 induction g with
 |true=>exact⟨rfl,h⟩|false=>exact b6 h
theorem Wn{α c:Type}{o:ao c}{w:c->Co α}{p:α×St}(h:(oA o w).f T r re σ=aa p):∃x,o=aa x/\(w x).f T r re σ=aa p:=by
 induction o with
 |some x=>exact⟨x,rfl,h⟩|none=>exact b6 h
theorem Bq{elt:aQ}{gens:ab bX}{scope:jB}{p:V×St}(h:(I4 sc elt gens scope).f T r re σ=aa p):∃g q xs ys,gens=g::q/\uO sc ys scope/\(g.is_async !=0)=ai/\dr scope.names g.target=aa xs/\dU (isSet g.iter)=aq/\
  b8 (la r sc g.iter re) (λi=>b8 (gx r scope.names xs g.ifs (kK r scope.names elt q) hM i (jj ys re) .nil) λp=>qj (lX p.2 .nil)) σ=aa p:=by
 induction gens using a6 with
 |nil=>exact b6 h|cons g q=>
  refine ck λd=>?_;obtain⟨ys,_,h⟩:=Wn h;have o:=(Wm h).1;have h:=(Wm h).2;obtain⟨xs,x,h⟩:=Wn h;have h:b8 (la r sc g.iter re) (λi=>b8 (gx r scope.names xs g.ifs (kK r scope.names elt q) hM i (jj ys re) .nil) λp=>qj (lX p.2 .nil)) σ=aa p:=h;refine d ?_;refine⟨g,q,xs,ys,rfl,Ho ((fS o).1),by unfold bne;refine((fS o).2)▸?_;rfl,x,?_,h⟩
  obtain⟨i,c,e1,_⟩:=br h
  induction s:dU (isSet g.iter) with
  |true=>rfl|false=>unfold la at e1;exact b6 (s▸e1)
theorem Tx(H:qT G K T mm)(I:gw G r n)(y:8<=n):Hn G T r n:=λ{sc elt gens scope p re k σ env}R v τ e S A Q E RA q=>by
 refine ck λc=>?_;obtain⟨g,s,xs,ys,rfl,ok,j,F,J,e⟩:=Bq e;refine c ?_;rw[eval_ListComp];have L:firstAsync (g::s)=ai:=by rcases g;exact j
 have M:firstIter (g::s) env=cn g.iter env:=by rcases g;rfl
 simp only[L,M];refine j5 (use:=aw) rfl (oG J) (yZ λp hp e=>(uQ ok R (x:=p.1) (by rw[<-e];exact hp)).2) ok.kind (λx N e=>(ok.loc x.1 (by rw[<-e];exact N)).1) ?_
 refine Bp H I y ok j F R v τ e S A E (λacc C=>vK (Md G.w) A E aw Q acc C) (RA.less (bp n 2)) λD C k' l O P z oC h=>?_;obtain⟨m,t⟩:=h;refine⟨m,t,λd U=>?_⟩;refine ck λc=>?_;obtain⟨f,i,mono⟩:=gone (tk:=k'.tk) O l U ⟨m,t⟩ z oC (gI (λb o e=>⟨o,S.base b o e⟩) z:G.X.h0.get? C=aw);refine c ?_;exact q (.ref D) ⟨k'.ρ,d,k'.tk⟩ i f (mono P)
theorem Yj(H:qT G K T mm)(I:oF G r n)(h8:8<=n):Bj G T (Nr T r) n:=λ{sc re k σ env pos elt gens scope p y U}R hs x τ e S A Q E RA q=>by
 refine ck λW=>?_;obtain⟨v,d,e1,e2⟩:=br e;obtain⟨re1,Y,e3,e4⟩:=br e2;clear e2
 cases e4
 have e1:(I4 sc elt gens scope).f T r re σ=aa (v,d):=e1;obtain⟨g,F,xs,ys,rfl,ok,O,ht,ns,e1⟩:=Bq e1;refine W ?_;refine(exec_Assign_Name_used _ _ _ _ hs)▸?_;refine aj (a8 (aj ?_));have f1:firstAsync (g::F)=ai:=by cases g;exact O
 have f2:firstIter (g::F) env=cn g.iter env:=by rcases g;rfl
 show bk _ A (do let _<-Mo (.ListComp elt (g::F) scope p) scope env _ (DL []) (firstAsync (g::F)) (firstIter (g::F) env) (aa (fx (.Name y U) env))) _ _ _
 simp only[f1,f2];refine aj (aI (j5 (use:=aa (fx (.Name y U) env)) (Q:=λι P=>Q .next P) rfl (oG ns) (yZ λp hp e=>(uQ ok R (x:=p.1) (by rw[<-e];exact hp)).2) ok.kind
  (λx hx e=>(ok.loc x.1 (by rw[<-e];exact hx)).1) ?_) (λι P hq=>aO (aO hq)) λι ι e=>e)
 refine Bp H I.togw h8 ok O ht R v d e1 S A E (λacc C=>vK (Md G.w) A E (aa (fx (.Name y U) env)) (λι P=>Q .next P) acc C) RA λD C k' l S' rv Z oC hns=>?_;obtain⟨m,hn⟩:=hns;have nf:C∉cy env:=λhm=>by
  obtain⟨o,ho,_⟩:=R.sa C hm;exact b6 (Z.symm.trans ho)
 have e3:opt (ip sc y) (λk=>rt (jY re k v)) d=aa (re1,τ):=e3
 induction t:ip sc y with
 |none=>exact b6 (t▸e3)|some ky=>
  replace e3:=t▸e3
  obtain⟨rfl,rfl⟩:=av (af e3);refine lL (n:=n) xF.all t (R.mono l) rv _ _ rfl S' A _ _ RA λι c i J CU=>?_;have z: ¬adr c.ρ C:=let ⟨_,_,_,ho,_⟩:=hn;i.off ho oC
  have j:c.h.Ns C m:=i.G8 oC nf hn;refine⟨m,j,λL s=>?_⟩;refine ck λW=>?_;obtain⟨M,N,mono⟩:=gone (k:=k) (tk:=c.tk) J (l.wk.trans i) s ⟨m,j⟩ Z z (gI (λb o e=>⟨o,S.base b o e⟩) Z:G.X.h0.get? C=aw);refine W ?_;exact q .next ⟨c.ρ,L,c.tk⟩ N M ⟨CU.but (wr:=[C]) (λb o nb e=>(s.2 b (λq=>nb (q▸fQ _))).trans e) (λa O q=>by rw[aJ]at q;subst q;exact nf O) mono,rfl⟩
end
section
variable{G:Gm}{K:jT}{T:Tab}{mm b:ae}
theorem pH(H:qT G K T mm)(hb:mm<=b/\8<=b):∀j,oF G (bg T j) (b+2*j)/\Bj G T (bg T j) (b+2*j)
 |0=>⟨⟨⟨λι=>aN.bW,λι=>aN.bW⟩,λι=>cU.bW⟩,λ{sc re k σ env pos elt gens scope p y c}R s x τ e=>by obtain⟨v,a,e1,_⟩:=br e;exact b6 e1⟩|j+1=>by
  obtain⟨I,U⟩:=pH H hb j;have h:8<=b+2*j:=by lia
  exact⟨OM H (by lia:mm<=b+2*j) h (Tx H I.togw h) U I,λ{sc re k σ env pos elt gens scope p y c}R s=>(Yj H I h R s).less (by lia)⟩
theorem CX(H:qT G K T mm)(hb:mm<=b/\8<=b)(j:ae):oF G (bg T j) (b+2*j):=(pH H hb j).1
end
abbrev hT(P:bZ):BT:=H.Internal.IV H.Internal.P1 P H.Internal.xZ
def hB(P:bZ):bJ:=(H.Internal.iZ P).update t5 λo=>{o with data:=.freed}
noncomputable def okB(a:ae):aE:=bH a 1815&&aE.not (au a t5)
def sd(P:bZ)(a:ae):Obj:=((hT P).get a).getD {cls:=.none}
set_option backward.match.sparseCases false in
noncomputable def fdO(o:Obj):gU:=match o.data with
 |.func f=>f|_=>cC
noncomputable def CY(o:Obj):Array ag:=match o.data with
 |.fields vs=>vs|_=> #[]
set_option backward.match.sparseCases false in
noncomputable def Ld(o:Obj):ab ag:=match o.data with
 |.seq xs a=>xs.toList|_=>[]
set_option backward.match.sparseCases false in
noncomputable def epO(o:Obj):ae:=match o.data with
 |.seq a n=>n|.dict a n=>n|_=>0
noncomputable def tb(o:Obj):ab aZ:=match o.data with
 |.dict es a=>es.toList|_=>[]
noncomputable def adb:ag->Str
 |.str x a=>x|_=>⟨#[]⟩
set_option backward.match.sparseCases false in
noncomputable def aaT:ag->Int
 |.int i a=>i|_=>0
set_option backward.match.sparseCases false in
noncomputable def E4:ag->Tok
 |.int a t=>t|.str a t=>t|.bytes a t=>t|_=>cC
set_option backward.match.sparseCases false in
noncomputable def ade:ag->aE
 |.bool b=>b|_=>ai
noncomputable def Hr:ag->aB
 |.ref a=>a|_=>0
noncomputable def E5:ab (ae×ae):=[(197,1558),(229,1814),(3,117),(4,125),(13,189),(14,196),(15,203),(60,544),(62,558),(63,572),(64,579),(65,586),(66,593),(67,600),(68,607),(69,614),(70,621),(72,635),(73,642),(74,647),(75,652),(76,659),(77,666),(78,673),(79,680),(80,685),(81,692),(82,699),(83,706),(84,713),(100,837),(107,887),(112,938),(113,945),(117,981),(118,995),(120,1009),(121,1016),(122,1023),(123,1028),(124,1035),(125,1040),(128,1073),(129,1080),(130,1087),(133,1120),(135,1139),(136,1146),(137,1153),(138,1160),(139,1167),(140,1172),(141,1177),(142,1182),(143,1187),(145,1201),(146,1208),(147,1213),(148,1220),(152,1247),(153,1254),(154,1261),(155,1266),(156,1273),(157,1287),(158,1301),(159,1308),(160,1315),(161,1322),(162,1327),(163,1334),(164,1341),(165,1348),(166,1355),(168,1369),(169,1376),(170,1383),(171,1388),(172,1395),(173,1402),(175,1414),(176,1421),(177,1428),(178,1435),(179,1442),(180,1449),(181,1456),(182,1463),(183,1468),(184,1473),(185,1480),(186,1485),(187,1490),(188,1497),(189,1502),(190,1509),(191,1516),(192,1523),(193,1530),(194,1537),(195,1544),(196,1551),(198,1565),(199,1572),(200,1579),(201,1586),(202,1593),(203,1600),(204,1605),(205,1612),(206,1619),(207,1626),(208,1641),(209,1648),(210,1655),(212,1676),(213,1681),(214,1686),(215,1693),(216,1707),(218,1736),(220,1757),(221,1764),(222,1771),(223,1778),(224,1785),(225,1792),(226,1797),(227,1802),(228,1809)]
noncomputable def wa:ab (ae×ae×ae):=[(6,358,357),(8,561,560),(9,918,917),(10,969,968),(11,1055,1054),(12,1102,1101),(13,1128,1127),(14,1290,1289),(15,1665,1664),(16,1717,1716),(17,1746,1745)]
noncomputable def Z9(l:ab (ae×ae))(d k:ae):ae:=findB (λp=>au p.1 k) (λp=>p.2) d l
noncomputable def oH(k:ae):ae:=Z9 E5 125 k
noncomputable def qW(c:ae):ae:=Z9 (wa.map λr=>(r.1,r.2.1)) 561 c
set_option backward.match.sparseCases false in
noncomputable def aez:ag->ao ae
 |.str k a=>fA k|_=>aw
noncomputable def p5(l:ab aZ):ab (ae×ag):=@cg aZ (λι=>ab (ae×ag)) [] (λe ι i=>@bl ae (λι=>ab (ae×ag)) i (λn=>(n,e.val)::i) (aez e.key)) l
noncomputable def MB(l:ab (ae×ag))(k:ae):ao ag:=findB (λp=>au p.1 k) (λp=>aa p.2) aw l
noncomputable def aaU:ae->ae->ab ae->ab ae
 |0,a,acc=>acc|k+1,n,acc=>match bH n 256 with
  |true=>acc|false=>aaU k (n/ 256) (n% 256::acc)
noncomputable def dec(n:ae):Str:=⟨(aaU 60 n []).toArray⟩
def kOf(P:bZ)(l:ab ae):jT:=l.map λa=>(a,sd P a)
noncomputable def Yk:ab ae:=E5.map (·.2)++(wa.map (·.2.1)++wa.map (·.2.2))
abbrev kH(P:bZ):jT:=kOf P Yk
def fF(P:bZ)(k:ae):gU:=fdO (sd P (oH k))
def Tz(P:bZ)(k:ae):ae:=Hr (fF P k).code
def aaV(P:bZ)(k:ae):ab ae:=match (fF P k).defaults with
 |.ref b=>[b]|_=>[]
noncomputable def TA:ab ae:=qJ.map (·.k)
def TB(P:bZ):ab ae:=TA.flatMap (aaV P)
noncomputable def valOf(v:V)(u:ag):ag:=V.casesOn v .none (λb=>.bool b) (λi=>.int i (E4 u)) (λs=>.str ⟨s.toArray⟩ (E4 u)) (λl=>.bytes (l.map bR).toArray (E4 u)) u (λι ι=>u) (λι=>u) (λι=>u) (λk=>.ref (oH k)) (λk=>.ref (qW k)) mr (λι=>u)
noncomputable def Z_(v:V):aE:=V.casesOn v aq (λι=>aq) (λι=>aq) (λι=>aq) (λι=>aq) ai (λι ι=>ai) (λι=>ai) (λι=>ai) (λι=>aq) (λι=>aq) (λι=>aq) (λι=>ai)
noncomputable def JE(v:V):aE:=V.casesOn v ai (λι=>ai) (λι=>ai) (λι=>ai) (λι=>ai) ai (λι ι=>ai) (λι=>ai) (λι=>ai) (λι=>ai) (λι=>ai) (λι=>aq) (λι=>ai)
noncomputable def CZ(v:V):aE:=V.casesOn v ai (λι=>ai) (λι=>ai) (λι=>ai) (λι=>ai) ai (λι ι=>ai) (λι=>aq) (λι=>ai) (λι=>ai) (λι=>ai) (λι=>ai) (λι=>ai)
noncomputable def xA(v:V):ab V:=V.casesOn v [] (λι=>[]) (λι=>[]) (λι=>[]) (λι=>[]) [] (λι ι=>[]) (λl=>fold [] (λh ι i=>h::i) l) (λι=>[]) (λι=>[]) (λι=>[]) (λι=>[]) (λι=>[])
def Yl(l:ab aZ):aE:=allB (λe=>ag.casesOn e.key ai ai ai (λι=>ai) (λι ι=>ai) (λι ι=>ai) (λι ι=>aq) (λι ι=>ai) (λι=>ai) (λι=>ai) (λι=>ai)) l
def esM(P:bZ):ab aZ:=tb (sd P 3)
def esB(P:bZ):ab aZ:=tb (sd P 0)
def Ym(P:bZ)(p:ae×V):ag:=(MB (p5 (esM P)) p.1).getD .none
noncomputable def gBi:aX:=gT.filter λp=>JE p.2
noncomputable def gTp:aX:=gT.filter λp=>CZ p.2
noncomputable def gPl:aX:=gT.filter λp=>dU (JE p.2)&&dU (CZ p.2)
def Aw(P:bZ):ab ae:=[0,1,2,3,46,83]++(gTp.map (λp=>Hr (Ym P p))++(Yk++(TA.map (Tz P)++TB P)))
theorem adf(P:bZ):((Aw P).map λa=>((hT P).get a,okB a,alive (sd P a)))=(Aw P).map λa=>(aa (sd P a),aq,aa (sd P a)):=⋯
theorem ns_(P:bZ):((([0,2,3,46,83].map λa=>((sd P a).data,Yl (tb (sd P a))))=[0,2,3,46,83].map λa=>(.dict (tb (sd P a)).toArray (epO (sd P a)),aq)))/\(tb (sd P 2)).all (λe=>!e.key.isStr "sys.recursionlimit")=aq:=⟨⋯,⋯⟩
theorem adg(P:bZ):(gBi.map λp=>(MB (p5 (esM P)) p.1,MB (p5 (esB P)) p.1,Z_ p.2))=gBi.map λp=>(aw,aa (valOf p.2 .none),aq):=⋯
theorem adh(P:bZ):(gPl.map λp=>(MB (p5 (esM P)) p.1,Z_ p.2))=gPl.map λp=>(aa (valOf p.2 (Ym P p)),aq):=⋯
def Yn(P:bZ)(p:ae×V):Obj:=sd P (Hr (Ym P p))
theorem adi(P:bZ):(gTp.map λp=>(MB (p5 (esM P)) p.1,p.2,(Yn P p).cls,(Yn P p).data,Gs valOf (xA p.2) (Ld (Yn P p)),(xA p.2).all Z_,(xA p.2).length))=
  gTp.map λp=>(aa (.ref (Hr (Ym P p))),.tup (cu (xA p.2)),.type "tuple",.seq (Ld (Yn P p)).toArray (epO (Yn P p)),Ld (Yn P p),aq,(Ld (Yn P p)).length):=⋯
theorem aaW:(gT.all λp=>!au p.1 (enc (aL "__debug__")))=aq:=⋯
def C0(K:jT)(C:ae):ab aE:=[hasDictIn K C,pU K (.ref C) "__getattribute__"==aa (aa (.builtin "object.__getattribute__")),pU K (.ref C) "__setattr__"==aa (aa (.builtin "object.__setattr__")),plainOver K C,makesIn K C,pU K (.ref C) "__getattr__"==aa aw,keepIn K (.ref C),
 A4.all λx=>fA (dec x)==aa x&&pU K (.ref C) (dec x)==aa aw]
def Wo(K:jT)(C:ae)(p:ae×ae):ab aE:=[fA (dec p.1)==aa p.1,dU (XH p.1),pU K (.ref C) (dec p.1)==aa (aa (.ref (oH p.2))),typeIn K (.ref (oH p.2))==aa (.type "function")]
theorem adj(P:bZ):((wa.map λr=>C0 (kH P) r.2.1)=wa.map λι=>[aq,aq,aq,aq,aq,aq,aq,aq])/\((uk.map λr=>r.2.map (Wo (kH P) (qW r.1)))=uk.map λr=>r.2.map λι=>[aq,aq,aq,aq])/\(E5.all λr=>keepIn (kH P) (.ref r.2))=aq:=⟨⋯,⋯,⋯⟩
noncomputable def se(r:Row):ab Str:=(uj r).params.args.map (·.arg)
def cOb(P:bZ)(k:ae):Obj:=sd P (Tz P k)
def nmV(P:bZ)(k:ae):ag:=((CY (cOb P k))[1]?).getD .none
theorem adk(P:bZ):(qJ.map λr=>((sd P (oH r.k)).data,(fF P r.k).body,(fF P r.k).scope,(fF P r.k).closure,(fF P r.k).globals,(fF P r.k).builtins,(fF P r.k).code,(cOb P r.k).data,(CY (cOb P r.k))[1]?))=
  qJ.map λr=>(.func (fF P r.k),.stmts (uj r).body,(uj r).scope,[],dh,fh,.ref (Tz P r.k),.fields (CY (cOb P r.k)),aa (.str (fF P r.k).qualname (E4 (nmV P r.k)))):=⋯
def Hs(sc:Sc)(x:Str):aE:=ao.casesOn (g_ sc x) ai λk=>k==.local ||k==.cell
theorem adl:(qJ.map λr=>((uj r).scope.kind,(uj r).scope.isCoroutine,(uj r).scope.isGenerator,decide ((uj r).scope.names.map (·.1)).Nodup,decide (se r).Nodup,allB (Hs (uj r).scope.names) (se r),(se r).map fA,cf r.dv.length (se r).length))=
  qJ.map λr=>(.function,ai,ai,aq,aq,aq,(fnR r).params.map aa,aq):=⋯
def dvR(P:bZ)(k:ae):ab ag:=(aaV P k).flatMap λb=>Ld (sd P b)
theorem adm(P:bZ):(qJ.map λr=>(Gs valOf r.dv (dvR P r.k),r.dv.all Z_,r.dv.length))=qJ.map λr=>(dvR P r.k,aq,(dvR P r.k).length):=⋯
noncomputable def Z'(u:ae->ag)(m:ae):ab ag:=(vr m).map u
noncomputable def arR(r:Row):ab ae:=(vr (ar (se r).length)).filter λm=>cf (se r).length (m+r.dv.length)
def bsR(P:bZ)(r:Row)(u:ae->ag)(m:ae):ab (Str×ag):=(se r).zip (Z' u m++(dvR P r.k).drop (m+r.dv.length - (se r).length))
theorem aaX(P:bZ)(u:ae->ag)(S:Xe):(qJ.map λr=>(arR r).map λm=>(peek (kOf P (TB P)) S (Iy (fF P r.k) ⟨Z' u m,[]⟩),(bsR P r u m).map (·.1)))=qJ.map λr=>(arR r).map λm=>(aa (bsR P r u m),se r):=⋯
theorem nT(P:bZ):(H.Internal.RJ H.Internal.P1 P 227).b.n=1815:=⋯
structure HX(w:bU)(X:Ctx):Prop where
 h0:X.h0=hB w.params
 jV:X.jV=oH
 h_:X.h_=qW
 Gd:X.Gd=mr
theorem C1{α:Type}{p:α->aE}{l:ab α}(h:l.all p=aq){x:α}(a:x∈l):p x=aq:=qg.mp h x a
theorem hS{α a:Type}{f g:α->a}{l:ab α}(h:l.map f=l.map g){x:α}(b:x∈l):f x=g x:=Ro.mp h x b
section
variable{P:bZ}{w:bU}{X:Ctx}
theorem C2(h:okB a=aq):a<1815/\a≠t5:=by
 obtain⟨c,b⟩:=fS h;exact⟨blt c,λe=>by rw[e]at b;exact fT b⟩
theorem E6(h:a≠t5):(hB P).get? a=(H.Internal.iZ P).get? a:=eU _ _ (Ne.symm h)
theorem TC(H:bJ)(a:aB):(H.update a λo=>{o with data:=.freed}).get? a=aw:=by
 induction e:(H.update a λo=>{o with data:=.freed}).get? a with
 |none=>rfl|some o=>
  obtain⟨h,b⟩:=(bJ.get?_eq_some _ _ _).mp e;rw[bJ.objs_update_self]at h
  induction q:H.objs[a]? with
  |none=>exact b6 (q▸h)|some x=>rw[q]at h;obtain rfl:=af h;exact nomatch b
theorem JF:(hB P).get? t5=aw:=TC _ _
theorem Ht(h:(hB P).get? a=aa o):(H.Internal.iZ P).get? a=aa o:=by
 by_cases e:a=t5
 ·rw[e]at h;exact b6 (JF.symm.trans h)
 ·rw[<-E6 e];exact h
theorem OP(g:(hT P).get a=aa o)(l:a<1815)(h:alive o=aa o):(H.Internal.iZ P).get? a=aa o:=by
 have:=abs_get (n:=(H.Internal.RJ H.Internal.P1 P 227).b.n) (life:=H.Internal.M4) (by rw[nT];exact l) g
 exact(h▸this)
theorem Wq(g:(hT P).get a=aa o)(l:okB a=aq)(h:alive o=aa o):(hB P).get? a=aa o:=(E6 (C2 l).2).trans (OP g (C2 l).1 h)
theorem y6{a:ae}(h:a∈Aw P):(hB P).get? a=aa (sd P a)/\okB a=aq:=by
 obtain⟨e1,e⟩:=av (hS (adf P) h);obtain⟨e2,e3⟩:=av e;exact⟨Wq e1 e2 e3,e2⟩
theorem Wr(h:a∈Yk):a∈Aw P:=bo _ (bo _ (b0 _ h))
theorem aaY(h:k∈TA):Tz P k∈Aw P:=bo _ (bo _ (bo _ (b0 _ (cE h))))
theorem aaZ(h:a∈TB P):a∈Aw P:=bo _ (bo _ (bo _ (bo _ h)))
theorem aa0(h:p∈gTp):Hr (Ym P p)∈Aw P:=bo _ (b0 _ (cE h))
theorem Ws(h:a∈[0,1,2,3,46,83]):a∈Aw P:=b0 _ h
theorem JG(H:HX w X)(ok:Z_ v=aq)(e:u=valOf v u):iU X ρ h v u:=by
 induction v using V.casesOn with
 |none=>exact e|bool=>exact e|int=>exact⟨_,e⟩|str=>exact⟨_,e⟩|eN=>exact⟨_,e⟩|fn k=>exact e.trans (aY cX (AR H.jV k).symm)|cls k=>exact e.trans (aY cX (AR H.h_ k).symm)|bi k=>exact e.trans (AR H.Gd k).symm|_=>exact fT ok
theorem E7(H:HX w X):∀{us:ab ag},Gs valOf l us=us->l.all Z_=aq->l.length=us.length->gi X ρ h (cu l) us:=by
 induction l with
 |nil=>
  intro us _ _ n
  induction us with
  |nil=>exact⟨trivial,rfl⟩|cons=>exact nomatch n
 |cons a r i=>
  intro us e ok n
  induction us using a6 with
  |nil=>exact nomatch n|cons u q=>
   obtain⟨e1,e2⟩:=c7 e;obtain⟨o,b⟩:=fS ok;have R:=i e2 b (o8 n);exact⟨R.lst,u,q,rfl,JG H o e1.symm,R.rep⟩
theorem lg(s:Yl es=aq):(∀e∈es,∃n t,e.key=.str n t)/\∀{x:Str}{n:ae},fA x=aa n->tY es.toArray x=MB (p5 es) n:=by
 have f:∀{es:ab aZ}{x:Str},tY es.toArray x=(es.find? λe=>e.key.isStr x).map (·.val):=λ{es x}=>by
  unfold tY wU;rw[MT]
 simp only[f]
 induction es with
 |nil=>exact⟨(λι h=>sr h),λι=>rfl⟩|cons e r c=>
  obtain⟨j,key,v⟩:=e
  induction key with
  |str k t=>
   obtain⟨b,i⟩:=c s;refine⟨λe he=>?_,λ{x n}a=>?_⟩
   ·rcases aG.mp he with rfl|he
    ·exact⟨k,t,rfl⟩
    ·exact b e he
   ·rw[VL]
    show nq _ (match k==x with|true=>_|false=>_)=_
    show _=MB (@bl ae (λι=>ab (ae×ag)) (p5 r) (λn=>(n,v)::p5 r) (fA k)) n
    induction q:k==x with
    |true=>
     have:=gd q;subst this;rw[a];show aa v=cS (au n n) (aa v) (MB (p5 r) n);rw[eL];rfl
    |false=>
     induction d:fA k with
     |none=>exact i a|some m=>
      show _=cS (au m n) (aa v) (MB (p5 r) n)
      induction g:au m n with
      |true=>exact er (mV (ay g▸d) a) (cV.mp q)|false=>exact i a
  |_=>exact fT s
theorem uR{a:ae}(h:a∈[0,2,3,46,83]):(hB P).Ns a (tY (tb (sd P a)).toArray)/\Yl (tb (sd P a))=aq:=by
 obtain⟨e,s⟩:=av (hS (ns_ P).1 h);have b:=(by decide:∀a∈[0,2,3,46,83],a∈[0,1,2,3,46,83]) a h
 exact⟨⟨_,_,_,(y6 (Ws b)).1,e,λe he=>(lg s).1 e (RY.mp he),λι=>rfl⟩,s⟩
theorem Br(h:c0 l n=aa v):(n,v)∈l:=by
 induction l with
 |nil=>exact b6 h|cons p r i=>
  have h:@dD (λι=>ao V) (c0 r n) (aa p.2) (au n p.1)=aa v:=h
  induction e:au n p.1 with
  |true=>
   rw[e]at h;injection h with h;subst h
   exact(ay e)▸ax
  |false=>rw[e]at h;exact aK _ (i h)
theorem TF(H:HX w X):G9 X gl:=by
 obtain⟨nm,s⟩:=uR (a:=3) (by decide)
 obtain⟨f,i⟩:=uR (a:=0) (by decide)
 refine⟨_,_,by rw[H.h0];exact nm,by rw[H.h0];exact f,λx n v b c=>⟨cV.mpr λq=>?_,?_⟩⟩
 ·subst q
  have e1:fA ("__debug__":Str)=aa (enc (aL "__debug__")):=⋯;obtain rfl:=af (e1.symm.trans b);have d:=C1 aaW (Br c);rw[eL]at d;exact fT d
 ·rw[(lg s).2 b,(lg i).2 b]
  have m:=Br c
  induction hb:JE v with
  |true=>
   obtain⟨e1,e⟩:=av (hS (adg w.params) (eZ.mpr ⟨m,hb⟩));refine .inr ⟨e1,_,(av e).1,?_⟩
   induction v using V.casesOn with
   |bi k=>exact(AR H.Gd k).symm|_=>exact fT hb
  |false=>
   induction t:CZ v with
   |false=>
    obtain⟨e1,e⟩:=av (hS (adh w.params) (eZ.mpr ⟨m,show(dU (JE v)&&dU (CZ v))=aq by rw[hb,t];rfl⟩))
    have e2:Ym w.params (n,v)=valOf v (Ym w.params (n,v)):=by
     show(MB _ _).getD .none=_;rw[e1];rfl
    exact .inl ⟨_,e1.trans (aY aa e2.symm),JG H e e2⟩
   |true=>
    have hp:(n,v)∈gTp:=eZ.mpr ⟨m,t⟩;refine ck λj=>?_;obtain⟨e1,e⟩:=av (hS (adi w.params) hp);obtain⟨ev,e⟩:=av e;obtain⟨e3,e⟩:=av e;obtain⟨e4,e⟩:=av e;obtain⟨e5,e⟩:=av e;obtain⟨e6,e7⟩:=av e;refine j ?_;refine .inl ⟨_,e1,?_⟩;have ev:v=.tup (cu (xA v)):=ev;have g:=y6 (aa0 (P:=w.params) hp);refine ev▸?_;have R:=E7 H (ρ:=[]) (h:=X.h0) e5 e6 e7;exact⟨_,_,rfl,⟨_,by rw[H.h0];exact g.1,e3,_,e4⟩,(λz=>z.elim (C2 g.2).2 λ⟨p,hp,_⟩=>sr hp),R.lst,R.rep⟩
theorem Yo{h:bJ}{es:ab aZ}(n:h.Ns 2 (tY es.toArray))(a:es.all (λe=>!e.key.isStr "sys.recursionlimit")=aq):h.NoLimit:=by
 refine⟨_,n,?_⟩;unfold tY wU;rw[MT,ab.find?_eq_none.mpr λe he=>by have:=C1 a he;simpa using this]
 rfl
theorem OQ(H:HX w X):X.h0.NoLimit:=by
 exact H.h0▸Yo (uR (by decide)).1 (ns_ w.params).2
theorem TH(H:HX w X):An X:=⟨_,by exact H.h0▸(y6 (Ws (by decide))).1⟩
theorem OR(h:∀a∈l,a∈Aw P):(kOf P l).In (hB P):=λa o e=>by
 induction l with
 |nil=>exact b6 e|cons b r i=>
  have e:((b,sd P b)::kOf P r).lookup a=aa o:=e
  by_cases q:a=b
  ·subst q
   exact(af (IJ.symm.trans e))▸(y6 (h a ax)).1
  ·simp only[dS,cV.mpr q]at e
   exact i (λx c=>h x (aK _ c)) e
theorem JH:Z9 l d k=d\/∃r∈l,Z9 l d k=r.2:=tV.imp id λz=>z.imp λr z=>⟨z.1,z.2.2⟩
theorem E8(k:ae):∃r∈E5,oH k=r.2:=by
 rcases JH (l:=E5) (d:=125) (k:=k) with h|h
 ·exact⟨_,aA (i:=3) rfl,h⟩
 ·exact h
theorem Lf(c:ae):∃r∈wa,qW c=r.2.1:=by
 rcases JH with h|⟨x,a,e⟩
 ·exact⟨_,aA (i:=1) rfl,h⟩
 ·obtain⟨r,b,rfl⟩:=bF.mp a
  exact⟨r,b,e⟩
theorem OS(k:ae):oH k∈Aw P:=by
 obtain⟨r,h,e⟩:=E8 k;exact Wr (b0 _ (e▸cE h))
end
section
variable{P:bZ}{w:bU}{X:Ctx}
theorem OT{α:Type}{p:α->aE}{l:ab α}(e:allB p l=aq):∀x∈l,p x=aq:=by
 induction l with
 |nil=>intro x h;exact sr h|cons a l i=>
  intro x h;have e:cS (p a) (allB p l) ai=aq:=e
  induction q:p a with
  |false=>replace e:=q▸e;exact fT e|true=>
   replace e:=q▸e
   rcases aG.mp h with rfl|h
   ·exact q
   ·exact i e x h
theorem Lg(b:ab V):∀a:ab V,cu (a++b)=tc (cu a) (cu b):=λa=>by
 induction a with
 |nil=>rfl|cons x a i=>exact aY (V.cons x) i
theorem Hu(d:ab V):∀k:ae,cu (d.drop k)=ud k (cu d):=by
 induction d with
 |nil=>intro k;rcases k<;>rfl|cons x d i=>
  intro k
  induction k with
  |zero=>rfl|succ k=>exact i k
theorem gi.ji:∀{us:ab ag},gi X ρ h (cu l) us->us.length=l.length:=by
 induction l with
 |nil=>
  intro us r;refine(show us=[] from r.rep)▸?_;rfl
 |cons a l i=>
  intro us r;obtain⟨u,q,rfl,_,b⟩:=r.rep;exact aY (· +1) (i ⟨r.lst,b⟩)
theorem Bs:∀{ps:ab ae}{re:aX},hI ps [] ds=aa re->ps.length<=ds.length/\re=ps.zip (ds.drop (ds.length - ps.length)):=λ{ps}=>by
 induction ps with
 |nil=>intro re e;obtain rfl:=af e;exact⟨bj _,rfl⟩|cons p ps i=>
  intro re e;obtain⟨d,a,e⟩:=aeC (o:=Nq ps.length ds) (f:=λd=>aeF (hI ps [] ds) λr=>aa ((p,d)::r)) e;obtain⟨r,b,e⟩:=aeC (o:=hI ps [] ds) (f:=λr=>aa ((p,d)::r)) e;obtain rfl:=af e;refine ck λk=>?_;obtain⟨l,c⟩:=i b;have h:ps.length<ds.length:=by
   have:=(aV.mp a).1;rwa[ab.length_reverse]at this
  have a:ds.reverse[ps.length]? =aa d:=a;rw[ab.getElem?_reverse h]at a;obtain⟨g,j⟩:=aV.mp a;refine k ?_;refine⟨h,?_⟩;rw[cY,(by rw[ae.sub_sub,nM]:ds.length - (ps.length+1)=ds.length - 1 - ps.length),jo g,j,(by rw[ae.sub_right_comm,iF (o9 h)]:ds.length - 1 - ps.length+1=ds.length - ps.length),c]
  rfl
theorem OU:∀{as:ab V}{ps:ab ae}{re:aX},hI ps as ds=aa re->as.length<=ps.length/\ps.length<=as.length+ds.length/\re=ps.zip (as++ds.drop (as.length+ds.length - ps.length)):=λ{as}=>by
 induction as with
 |nil=>
  intro ps re e;have a:=(Bs e).1;exact⟨bj _,by simp only[mR,dY];exact a,by simp only[mR,dY];exact((Bs e).2)⟩
 |cons a as i=>
  intro ps re e
  induction ps using a6 with
  |nil=>exact b6 e|cons p ps=>
   obtain⟨r,h,e⟩:=aeC (o:=hI ps as ds) (f:=λr=>aa ((p,a)::r)) e;obtain rfl:=af e;obtain⟨b,c,d⟩:=i h;have e1:(a::as).length+ds.length=as.length+ds.length+1:=Rp ..;simp only[e1,show(p::ps).length=ps.length+1 from rfl,ae.add_sub_add_right]
   exact⟨VR b,VR c,by rw[d];rfl⟩
theorem Lh:∀{vs:ab V}{ps:ab ae}{names:ab Str}{us:ab ag},names.map fA=ps.map aa->gi X ρ h (cu vs) us->Binds X ρ h (ps.zip vs) (names.zip us):=λ{vs}=>by
 induction vs with
 |nil=>
  intro ps names us e r;rw[show us=[] from r.rep,vv,vv]
  exact rfl
 |cons v vs i=>
  intro ps names us e r;obtain⟨u,q,rfl,a,b⟩:=r.rep
  induction ps using a6 with
  |nil=>
   induction names using a6 with
   |nil=>exact rfl|cons=>exact nomatch e
  |cons p ps=>
   induction names using a6 with
   |nil=>exact nomatch e|cons x names=>
    exact⟨x,u,names.zip q,rfl,((c7 e).1),a,i ((c7 e).2) ⟨r.lst,b⟩⟩
theorem OV(e:Nt l k=aa r):r∈l/\r.k=k:=by
 rcases tV (t:=λr:Row=>au r.k k) (f:=aa) (d:=aw) (l:=l) with h|⟨a,b,t,h⟩
 ·exact b6 (h.symm.trans e)
 ·exact af (h.symm.trans e)▸⟨b,ay t⟩
theorem Yp(us:ab ag):us=Z' (λi=>us.getD i .none) us.length:=by
 unfold Z';exact ab.ext_getElem (by simp) λi h a=>by simp[az h]
noncomputable def Yq(r:Row)(dv:ab ag)(u:ae->ag)(m:ae):ab (Str×ag):=(se r).zip (Z' u m++dv.drop (m+r.dv.length - (se r).length))
theorem OW{G:Gm}{r:Row}{d:gU}{dv:ab ag}{K:jT}(C:d.scope=(uj r).scope)(D:(se r).Nodup)(E:allB (Hs (uj r).scope.names) (se r)=aq)(j:(se r).map fA=(fnR r).params.map aa)(l:gi G.X [] G.X.h0 (cu r.dv) dv)(n:K.In G.X.h0)(p:∀u S m,m∈arR r->peek K S (Iy d ⟨Z' u m,[]⟩)=aa (Yq r dv u m)/\(Yq r dv u m).map (·.1)=se r){as:ab V}{re:aX}{us:ab ag}{k:Kf}{σ:St}(hb:hI (fnR r).params as r.dv=aa re)(t:pj G k as us)(S:SR G k σ):
  ∃g,Rk (sh G.b k) d ⟨us,[]⟩ g/\Binds G.X k.ρ k.h re g/\(g.map (·.1)).Nodup/\∀x∈g,d.scope.names.lookup x.1=aa .local\/d.scope.names.lookup x.1=aa .cell:=by
 refine ck λF=>?_;obtain⟨v,y,A⟩:=OU hb;have l1:=gi.ji t;have H:(se r).length=(fnR r).params.length:=(b9 ..).symm.trans ((aY km j).trans (b9 ..));rw[<-H,<-l1]at v y A;have n:K.In k.h:=λa o e=>S.base a o (n a o e);have p:=λS=>p (λi=>us.getD i .none) S _ (eZ.mpr ⟨ab.mem_range.mpr (ew v),cz y⟩:us.length∈arR r);unfold Yq at p;rw[<-Yp]at p;have c:=(p ⟨PW,G.w.params⟩).2;refine F ?_;refine⟨_,kp_binds (s:=sh G.b k) n λS=>(p S).1,?_,by rw[c];exact D,λx I=>?_⟩
 ·rw[A]
  refine Lh j ?_;simp only[Lg,Hu];exact Jg (gi.drop ⟨l.lst,Rep.base S l.rep⟩ _) t
 ·have z:=OT E x.1 (by exact c▸cE (f:=(·.1)) I)
  unfold Hs at z;rw[kO]at z;refine C▸?_
  induction q:(uj r).scope.names.lookup x.1 with
  |none=>rw[q]at z;exact fT z|some J=>
   rw[q]at z;exact((VO _ _).mp z).imp (λz=>aY aa (gd z)) λz=>aY aa (gd z)
theorem aa1{G:Gm}(H:HX G.w G.X)(e:Z6 j=aa f):∃o l,FnAt G j f o l:=by
 unfold Z6 at e
 induction d:Nt qJ j with
 |none=>exact b6 (d▸e)|some r=>
  rw[d]at e;obtain rfl:=af e;obtain⟨c,rfl⟩:=OV d;refine ck λn=>?_;obtain⟨p,z⟩:=av (hS (adk G.w.params) c);obtain⟨q,z⟩:=av z;obtain⟨b,z⟩:=av z;obtain⟨s,z⟩:=av z;obtain⟨t,z⟩:=av z;obtain⟨v,z⟩:=av z;obtain⟨x,z⟩:=av z;obtain⟨y,A⟩:=av z;obtain⟨C,z⟩:=av (hS adl c);obtain⟨D,z⟩:=av z;obtain⟨s3,z⟩:=av z;obtain⟨s4,z⟩:=av z;obtain⟨E,z⟩:=av z;obtain⟨F,z⟩:=av z;obtain⟨I,Q⟩:=av z;obtain⟨J,z⟩:=av (hS (adm G.w.params) c);obtain⟨L,M⟩:=av z;have N:r.k∈TA:=cE (f:=(·.k)) c;refine n ?_;have i:(kOf G.w.params (TB G.w.params)).In G.X.h0:=by rw[H.h0];exact OR λa h=>aaZ h
  exact⟨_,_,by rw[H.h0,H.jV];exact(y6 (OS r.k)).1,p,q,aY (·.names) b,s,(aY (·.kind) b).trans C,(aY (·.isCoroutine) b).trans D,(aY (·.isGenerator) b).trans s3,t,v,⟨_,_,_,_,x,by rw[H.h0];exact(y6 (aaY N)).1,y,A⟩,by rw[b];exact eH s4,
   λas re us k σ hb O S=>OW (dv:=dvR G.w.params r.k) b (eH E) F I (E7 H J L M) i (λu S m g=>av (hS (hS (aaX G.w.params u S) c) g)) hb O S⟩
end
section
variable{G:Gm}{mm:ae}
theorem TJ(e:lkO l x=aa k):(x,k)∈l:=by
 rcases tV (t:=λp:ae×ae=>au p.1 x) (f:=λp=>aa p.2) (d:=aw) (l:=l) with h|⟨a,b,t,h⟩
 ·exact b6 (h.symm.trans e)
 ·exact ay t▸af (h.symm.trans e)▸b
theorem Li(e:sv l c x=aa k):∃ms,(c,ms)∈l/\(x,k)∈ms:=by
 rcases tV (t:=λp:ae×ab (ae×ae)=>au p.1 c) (f:=λp=>lkO p.2 x) (d:=aw) (l:=l) with h|⟨a,b,t,h⟩
 ·exact b6 (h.symm.trans e)
 ·exact⟨a.2,ay t▸b,TJ (h.symm.trans e)⟩
theorem TK:(biL.map (Iw))=biL.map λι=>pure .machine:=⋯
theorem TM(j:ae):∀h,Iv (Md w) h (Iw (mr j)) .machine:=λh=>by
 unfold mr;refine(cx)▸?_
 induction q:biL[j]? with
 |none=>exact t9 rfl|some v=>exact t9 (hS TK (aA q))
theorem TN(H:HX G.w G.X){d:ae->ab V->Rm V}(t:∀{j as us k σ},pj G k as us->Hc G mm k σ (d j as) (.call (.ref (G.X.jV j)) ⟨us,[]⟩)):qT G (kH G.w.params) (gh d) mm:=by
 have K:(kH G.w.params).In G.X.h0:=by rw[H.h0];exact OR λa h=>Wr h
 obtain⟨u,v,z⟩:=adj G.w.params;have B:∀(c i:ae),(C0 (kH G.w.params) (G.X.h_ c))[i]? =([aq,aq,aq,aq,aq,aq,aq,aq]:ab aE)[i]? :=λc i=>by
  rw[H.h_];refine ck λn=>?_;obtain⟨r,p,e⟩:=Lf c;refine n ?_;exact e▸aY (·[i]?) (hS u p)
 have b:=λ(c i:ae){x:aE}(h:(C0 (kH G.w.params) (G.X.h_ c))[i]? =aa x)(g:([aq,aq,aq,aq,aq,aq,aq,aq]:ab aE)[i]? =aa aq)=>af (h.symm.trans ((B c i).trans g));have ms:∀{c x k},sv uk c x=aa k->∀(i:ae){y:aE},(Wo (kH G.w.params) (G.X.h_ c) (x,k))[i]? =aa y->([aq,aq,aq,aq]:ab aE)[i]? =aa aq->y=aq:=λ{c x k}h i y m g=>by
  obtain⟨l,A,C⟩:=Li h;rw[H.h_]at m;exact af (m.symm.trans ((aY (·[i]?) (hS (hS v A) C)).trans g))
 refine⟨⟨TH H,⟨K,λc=>b c 0 rfl rfl,λc=>gd (b c 1 rfl rfl),λc=>gd (b c 2 rfl rfl),λc=>b c 3 rfl rfl,λc name x q=>?_⟩,λk=>by rw[H.Gd],TF H⟩,OQ H,λj f e=>aa1 H e,t,λj=>?_,λj=>?_,λj=>?_,λc k h=>?_,λc x k name h q=>?_⟩
 ·obtain⟨m,g⟩:=GY q
  have:=fS (C1 (b c 7 rfl rfl) (uN g));exact(mV m (gd this.1))▸gd this.2
 ·intro h s
  refine H.jV▸?_;refine ck λn=>?_;obtain⟨r,p,e⟩:=E8 j;refine n ?_;exact e▸keeps_K (C1 z p) h λa o e=>s a o (K a o e)
 ·intro h s
  exact keeps_K (b j 6 rfl rfl) h λa o e=>s a o (K a o e)
 ·intro h _
  exact H.Gd▸⟨.machine,.inr (.inl rfl),TM j h⟩
 ·have e1:dec Gz=("__init__":Str):=⋯
  exact H.jV▸⟨b c 4 rfl rfl,(e1▸(gd (ms h 2 rfl rfl))),gd (ms h 3 rfl rfl)⟩
 ·rw[mV q (gd (ms h 0 rfl rfl)),H.jV]
  exact⟨gd (b c 1 rfl rfl),gd (b c 5 rfl rfl),gd (ms h 2 rfl rfl),gd (ms h 3 rfl rfl),tv (ms h 1 rfl rfl)⟩
end
def ir{α β:Type}(o:ao α)(f:α->β):ao β:=@bl α (λι=>ao β) aw (λa=>aa (f a)) o
def dI{α β γ:Type}(o:ao α)(p:ao β)(f:α->β->γ):ao γ:=@bl α (λι=>ao γ) aw (λa=>ir p (f a)) o
def cT(L Q:ae->ao V)(v:V):ao V:=@V.rec (λι=>ao V) (aa .none) (λb=>aa (.bool b)) (λi=>aa (.int i)) (λs=>aa (.str s)) (λs=>aa (.eN s)) (aa .nil)
 (λι ι a b=>dI a b .cons) (λι a=>ir a .tup) L (λk=>aa (.fn k)) (λk=>aa (.cls k)) (λk=>aa (.bi k)) Q v
def uS(L Q:ae->ao V)(e:aX):ao aX:=@cg (ae×V) (λι=>ao aX) (aa []) (λp ι i=>dI (cT L Q p.2) i λv r=>(p.1,v)::r) e
def mapM(L Q:ae->ao V)(o:MO):ao MO:=MO.casesOn o (λl=>ir (cT L Q l) .list) (λl e=>ir (cT L Q l) λl=>.dict l e) (λc as=>ir (uS L Q as) (.inst c)) (λl=>aa (.jv l)) (λt=>aa (.jg t))
noncomputable abbrev wf(X:Ctx)(f:ae->ag):Ctx:={X with fv:=f}
section
variable{α β γ:Type}
inductive M1(o:ao α)(f:α->β)(b:β):Prop
 |mk (a:α) (at_:o=aa a) (eq:f a=b)
inductive M2(o:ao α)(p:ao β)(f:α->β->γ)(c:γ):Prop
 |mk (a:α) (b:β) (fst:o=aa a) (snd:p=aa b) (eq:f a b=c)
theorem fI(h:ir o f=aa b):M1 o f b:=by
 cases o with
 |none=>exact b6 h|some a=>cases h;exact⟨a,rfl,rfl⟩
theorem dO(h:dI o p f=aa c):M2 o p f c:=by
 cases o with
 |none=>exact b6 h|some a=>
  obtain⟨b,e,h⟩:=fI h;exact⟨a,b,rfl,e,h⟩
end
section
variable{X:Ctx}{P:bZ}{ρ jk:fO}{h h' :bJ}{L Q:ae->ao V}{f:ae->ag}
structure Turn(X:Ctx)(f:ae->ag)(ρ:fO)(h:bJ)(jk:fO)(h' :bJ)(L Q:ae->ao V):Prop where
 lab:∀i x pr vs,L i=aa x->ρ[i]? =aa pr->Rep (wf X f) jk h' x (.ref pr.1) vs
 gH:∀k x vs,Q k=aa x->Rep (wf X f) jk h' x (X.fv k) vs
 tup:∀a us,h.IsTuple a us->¬adr ρ a->h'.IsTuple a us/\¬adr jk a
theorem E9:∀{y:V},cT L Q x=aa y->w' x->w' y:=by
 induction x with
 |nil=>intro y e _;cases e;trivial|cons a b f i=>
  intro y e z;obtain⟨d,c,_,e2,rfl⟩:=dO (o:=cT L Q a) (p:=cT L Q b) e;exact(i e2 z:w' c)
 |_=>intro y e z;exact nomatch z
theorem Rep.turn(T:Turn X f ρ h jk h' L Q){x:V}:∀{y:V}{v:ag}{vs:ab ag},cT L Q x=aa y->Rep X ρ h x v vs->Rep (wf X f) jk h' y v vs:=by
 induction x with
 |cons a b c d=>
  rintro y v vs e ⟨u,us,rfl,g,j⟩;obtain⟨l,q,e1,e2,rfl⟩:=dO (o:=cT L Q a) (p:=cT L Q b) e;exact⟨u,us,rfl,c e1 g,d e2 j⟩
 |tup a m=>
  rintro y v vs e ⟨b,us,rfl,t,n,z,r⟩;obtain⟨l,e1,rfl⟩:=fI (o:=cT L Q a) e;have:=T.tup b _ t n;exact⟨b,us,rfl,this.1,this.2,E9 e1 z,m e1 r⟩
 |a4 i=>
  rintro y v vs e ⟨p,hp,rfl⟩;exact T.lab i y p vs e hp
 |gH k=>
  intro y v vs e r
  cases r
  exact T.gH k y vs e
 |_=>intro y v vs e r;cases e;exact r
theorem rJ:∀{as a:aX},uS L Q as=aa a->(c0 as n=aw/\c0 a n=aw)\/∃v b,c0 as n=aa v/\c0 a n=aa b/\cT L Q v=aa b
 |[],a,e=>by cases e;exact .inl ⟨rfl,rfl⟩|p::r,a,e=>by
  obtain⟨b,r',e1,e2,rfl⟩:=dO (o:=cT L Q p.2) (p:=uS L Q r) e;show(@dD (λι=>ao V) (c0 r n) (aa p.2) (au n p.1)=aw/\@dD (λι=>ao V) (c0 r' n) (aa b) (au n p.1)=aw)\/
   ∃v w,@dD (λι=>ao V) (c0 r n) (aa p.2) (au n p.1)=aa v/\@dD (λι=>ao V) (c0 r' n) (aa b) (au n p.1)=aa w/\cT L Q v=aa w
  cases au n p.1 with
  |true=>exact .inr ⟨_,_,rfl,rfl,e1⟩|false=>exact rJ e2
theorem y7:∀{as a:aX},uS L Q as=aa a->a.length=as.length
 |[],a,e=>by cases e;rfl|p::r,a,e=>by
  obtain⟨v,r',_,e2,rfl⟩:=dO (o:=cT L Q p.2) (p:=uS L Q r) e;exact aY (· +1) (y7 e2)
section
variable{R R' :V->ag->ab ag->Prop}
theorem D5.cT(r:D5 P x e):cT L Q x=aa x:=by
 induction x with
 |str=>rfl|int=>rfl|_=>exact r.elim
theorem eJ.turn(c:∀{x y v vs},cT L Q x=aa y->R x v vs->R' y v vs)(e:cT L Q a=aa b)(r:eJ R P a es):eJ R' P b es:=by
 induction r generalizing b with
 |nil=>exact af e▸.nil|@cons x y q n s k d f i=>
  obtain⟨g,j,e1,e2,rfl⟩:=dO (o:=cT L Q (.cons x y)) (p:=cT L Q q) e;obtain⟨l,m,e3,e4,rfl⟩:=dO (o:=cT L Q x) (p:=cT L Q y) e1;obtain rfl:=af ((D5.cT k).symm.trans e3);exact .cons k (c e4 d) (i e2)
theorem xa.turn(d:∀{x y v vs},cT L Q x=aa y->R x v vs->R' y v vs)(e:uS L Q as=aa s)(r:xa R as mm):xa R' s mm:=λx n g=>by
 have:=r x n g;rcases rJ (n:=n) e with⟨a,b⟩|⟨v,i,a,b,c⟩
 ·rw[a]at this;rw[b];exact this
 ·rw[a]at this;rw[b]
  exact this.imp λu z=>⟨z.1,d c z.2⟩
end
theorem ia.turn(T:Turn X f ρ h jk h' L Q){p:aB×aB}(e1:∀x,h.get? p.1=aa x->h'.get? p.1=aa x)(e2:∀x,h.get? p.2=aa x->h'.get? p.2=aa x){o o' :MO}(e:mapM L Q o=aa o')(r:ia X P ρ h p o):ia (wf X f) P jk h' p o' :=by
 cases o with
 |list l=>
  obtain⟨g,e3,rfl⟩:=fI (o:=cT L Q l) e;obtain⟨a,vs,n,z,b,c,d⟩:=r;exact⟨a,vs,n,z,e1 _ b,E9 e3 c,d.turn T e3⟩
 |dict l ep=>
  obtain⟨g,e3,rfl⟩:=fI (o:=cT L Q l) e;obtain⟨a,es,z,b,c⟩:=r;exact⟨a,es,z,e1 _ b,c.turn (λe r=>r.turn T e) e3⟩
 |inst c as=>
  obtain⟨s,e3,rfl⟩:=fI (o:=uS L Q as) e;obtain⟨a,m,b,⟨od,es,n,i,j,q,u⟩,d,ok,w⟩:=r;refine⟨a,m,e1 _ b,⟨od,es,n,e2 _ i,j,by rw[y7 e3];exact q,u⟩,d.at' e2,λk v z=>?_,w.turn (λe r=>r.turn T e) e3⟩
  rcases rJ (n:=k) e3 with⟨x,y⟩|⟨v,A,x,y,_⟩
  ·exact b6 (y.symm.trans z)
  ·exact ok k v x
 |jv l=>
  cases e
  exact⟨r.1,r.2.1,e1 _ r.2.2⟩
 |jg t=>
  cases e
  obtain⟨a,vs,n,b,z⟩:=r;exact⟨a,vs,n,e1 _ b,z⟩
end
def y8(ks:ab ae)(x:ae):ao ae:=@cg ae (λι=>ao ae) aw (λk ι i=>cS (au k x) (aa 0) (ir i ar)) ks
def Lj(ks:ab ae)(j:ae):ao ae:=Z3 ks j
def dW(lab:ab ae)(i:ae):ao V:=@bl ae (λι=>ao V) (aa (.gH (bP 2 i))) (λj=>aa (.a4 j)) (y8 lab i)
noncomputable def eA(k:ae):ao V:=aa (.gH (ar (bP 2 k)))
def iP(m:ae)(ks:ab ae)(i:ae):ao V:=cS (bH i m) (aa (.a4 i)) (ir (y8 ks i) λj=>.a4 (aM m j))
noncomputable def j9(k:ae):ao V:=aa (.gH k)
def Bt(m n q:ae)(lab:ab ae)(j:ae):ao V:=cS (bH j m) (ir (Lj lab j) V.a4) (cS (bH (mw j m) q) (aa (.a4 (aM n (mw j m)))) aw)
def Ac(n k:ae):ao V:=cS (au (bz k 2) 0) (cS (bH (gC k 2) n) (aa (.a4 (gC k 2))) aw) (aa (.gH (gC k 2)))
noncomputable def sel(ρ:fO)(lab:ab ae):fO:=lab.map λi=>ρ.getD i (0,0)
noncomputable def y9(ρ:fO)(f:ae->ag)(k:ae):ag:=if k% 2=0 then .ref (ρ.getD (k/ 2) (0,0)).1 else f (k/ 2)
theorem y_:cS b x y=if b=aq then x else y:=by cases b<;>rfl
theorem blt_iff:bH a b=aq↔a<b:=⟨blt,λe=>cz e⟩
theorem oI:∀{ks:ab ae}{j:ae},y8 ks x=aa j->ks[j]? =aa x
 |[],j,e=>b6 e|k::r,j,e=>by
  have e:cS (au k x) (aa 0) (ir (y8 r x) ar)=aa j:=e
  induction q:au k x with
  |true=>replace e:=q▸e;obtain rfl:=af e;refine(ay q)▸?_;rfl|false=>
   replace e:=q▸e
   obtain⟨i,e1,rfl⟩:=fI (o:=y8 r x) e;exact(oI e1:r[i]? =aa x)
theorem x_:∀(ks:ab ae)(j:ae),Lj ks j=ks[j]?
 |[],j=>by rcases j<;>rfl|k::r,0=>rfl|k::r,j+1=>x_ r j
section
variable{X:Ctx}{P:bZ}{ρ jk:fO}{h h' :bJ}{σ:St}{lab:ab ae}
theorem n_{j i:ae}{p:aB×aB}(e:lab[j]? =aa i)(hp:ρ[i]? =aa p):(sel ρ lab)[j]? =aa p:=by
 unfold sel;simp only[cL,e];show aa (ρ.getD i (0,0))=aa p;rw[cx,hp];rfl
theorem lh(v:∀i∈lab,i<ρ.length)(hp:p∈sel ρ lab):∃i j:ae,lab[j]? =aa i/\ρ[i]? =aa p:=by
 refine ck λk=>?_;obtain⟨i,a,rfl⟩:=bF.mp hp;obtain⟨j,b,e⟩:=dV a;refine k ?_;refine⟨i,j,by rw[az b,e],?_⟩
 rw[cx,az (v i a)];rfl
theorem C3(v:∀i∈lab,i<ρ.length)(h:adr (sel ρ lab) a):adr ρ a:=by
 obtain z|⟨p,hp,q⟩:=h
 ·exact .inl z
 obtain⟨i,j,_,e⟩:=lh v hp;exact .inr ⟨p,aA e,q⟩
theorem Bu(v:∀i∈lab,i<ρ.length)(n:lab.Nodup)(c:ρ.Pairwise λp q=>p.1≠q.1/\p.1≠q.2/\p.2≠q.1/\p.2≠q.2):(sel ρ lab).Pairwise λp q=>p.1≠q.1/\p.1≠q.2/\p.2≠q.1/\p.2≠q.2:=by
 unfold sel;rw[et];refine n.imp_of_mem λ{a b}d hb ne=>?_;have g:∀{i},i∈lab->ρ[i]? =aa (ρ.getD i (0,0)):=λ{i}e=>by rw[cx,az (v i e)];rfl
 exact hO c (g d) (g hb) ne
theorem OY(e:ρ[i]? =aa p):y9 ρ f (2*i)=.ref p.1:=by
 unfold y9;rw[bc (xS 2 i),qv _ (by decide:0<2),cx,e];rfl
theorem TP{f:ae->ag}(k:ae):y9 ρ f (ar (2*k))=f k:=by
 unfold y9;rw[aU (λh=>er ((ae.mul_add_mod 2 k 1).symm.trans h) (by decide)),show ar (2*k)/ 2=k from Xa (by decide:0<2) k 1]
theorem E_(v:∀i∈lab,i<ρ.length):Turn X (y9 ρ X.fv) ρ h (sel ρ lab) h (dW lab) eA:=by
 refine⟨λi x p vs e hp=>?_,λk x vs e=>?_,λa us t n=>⟨t,λq=>n (C3 v q)⟩⟩
 ·unfold dW at e
  induction q:y8 lab i with
  |some j=>
   rw[q]at e;injection e with e;subst e
   exact⟨p,n_ (oI q) hp,rfl⟩
  |none=>
   replace e:=q▸e
   obtain rfl:=af e;exact(OY hp).symm
 ·obtain rfl:=af e
  exact(TP k).symm
theorem h5.select(S:h5 X P ρ σ h)(d:lab.Nodup)(v:∀i∈lab,i<σ.n){s:St}(a:s.n=lab.length)(b:∀j o',s.t.get j=aa o'->∃i o,lab[j]? =aa i/\σ.t.get i=aa o/\mapM (dW lab) eA o=aa o'):
  h5 (wf X (y9 ρ X.fv)) P (sel ρ lab) s h:=by
 replace v:=S.len▸v
 refine⟨S.base,by exact a▸b9 ..,λp hp=>?_,Bu v d S.apart,λp hp us=>?_,λj o' e=>?_,S.pl,λp hp=>?_⟩
 ·refine ck λk=>?_
  obtain⟨i,j,_,e⟩:=lh v hp;refine k ?_;exact S.above p (aA e)
 ·obtain⟨i,j,_,e⟩:=lh v hp
  exact S.nt p (aA e) us
 ·refine ck λk=>?_
  obtain⟨i,o,c,g,m⟩:=b j o' e;obtain⟨p,hp,r⟩:=S.objs i o g;refine k ?_;exact⟨p,n_ c hp,r.turn (E_ v) (λι e=>e) (λι e=>e) m⟩
 ·refine ck λk=>?_
  obtain⟨i,j,_,e⟩:=lh v hp;refine k ?_;exact S.x4 p (aA e)
theorem OZ{m:ae}{ks:ab ae}{ρs:fO}(b:m<=ρs.length)(v:∀i∈ks,i<ρs.length):Turn X X.fv ρs h (ρs.take m++sel ρs ks) h (iP m ks) j9:=by
 have l:(ρs.take m).length=m:=by rw[hK];exact f9 b
 refine⟨λi x r vs e hp=>?_,λk x vs e=>by obtain rfl:=af e;exact rfl,λa us t n=>⟨t,λq=>n ?_⟩⟩
 ·unfold iP at e
  induction c:bH i m with
  |true=>
   rw[c]at e;obtain rfl:=af e;refine⟨r,?_,rfl⟩;rw[ct (by rw[l];exact blt c),ab.getElem?_take_of_lt (blt c)];exact hp
  |false=>
   rw[c]at e;obtain⟨j,e1,rfl⟩:=fI (o:=y8 ks i) e;refine⟨r,?_,rfl⟩;show(_++_)[m+j]? =_;rw[d7 (by rw[l];exact bp m j),l,hZ]
   exact n_ (oI e1) hp
 ·rw[kM]at q
  rcases q with(z|⟨p,hp,q⟩)|q
  ·exact .inl z
  ·exact .inr ⟨p,Kc hp,q⟩
  ·exact C3 v q
theorem x'(a:i<ρ.length):ρ[i]? =aa (ρ.getD i (0,0)):=by rw[cx,az a];rfl
theorem TQ(S:h5 X P ρ σ h)(v:∀i∈lab,i<σ.n){nw:fO}{m:ae}(w:m=lab.length){q:ae}(d:nw.length=q)(keep:∀b o,h.get? b=aa o->¬adr (sel ρ lab) b->h'.get? b=aa o):
  Turn (wf X (y9 ρ X.fv)) X.fv (sel ρ lab++nw) h' (ρ++nw) h' (Bt m σ.n q lab) (Ac σ.n):=by
 subst w d;have l:(sel ρ lab).length=lab.length:=b9 ..;refine⟨λj x y vs e hp=>?_,λk x vs e=>?_,λa us t n=>⟨t,λz=>?_⟩⟩
 ·unfold Bt at e
  induction c:bH j lab.length with
  |true=>
   rw[c]at e;have c:=blt c;obtain⟨i,e1,rfl⟩:=fI (o:=Lj lab j) e;rw[x_]at e1;have g:=v i (aA e1);rw[<-S.len]at g;rw[ct (by rw[l];exact c),n_ e1 (x' g)]at hp
   obtain rfl:=af hp;exact⟨_,by rw[ct g];exact x' g,rfl⟩
  |false=>
   rw[c]at e;have c: ¬j<lab.length:=λz=>tF ((blt_iff.mpr z).symm.trans c);obtain rfl:=af (Js e).2;refine⟨y,?_,rfl⟩;rw[d7 (l▸h4 c),l]at hp;show(ρ++nw)[σ.n+(j - lab.length)]? =_;rw[d7 (S.len▸bp σ.n (j - lab.length)),S.len,hZ];exact hp
 ·unfold Ac at e
  show Rep _ _ _ x (y9 ρ X.fv k) vs;unfold y9
  induction c:au (bz k 2) 0 with
  |true=>
   rw[c]at e;have e:=Js e;rw[bc (show k% 2=0 from ay c)]
   have s:k/ 2<ρ.length:=by rw[S.len];exact blt e.1
   obtain rfl:=af e.2;exact⟨_,by rw[ct (show gC k 2<_ from s)];exact x' s,rfl⟩
  |false=>
   rw[c]at e;rw[aU λz:k% 2=0=>tF ((jd.mpr z).symm.trans c)];obtain rfl:=af e;exact rfl
 ·rw[kM]at z n
  rcases z with(z|⟨p,hp,z⟩)|z
  ·exact n (.inl (.inl z))
  ·have f: ¬adr (sel ρ lab) p.1/\¬adr (sel ρ lab) p.2\/p∈sel ρ lab:=by
    obtain⟨i,g,rfl⟩:=dV hp
    by_cases c:i∈lab
    ·obtain⟨j,A,e⟩:=dV c
     exact .inr (aA (n_ (by rw[az A,e]) (az g)))
    ·have r:∀q∈sel ρ lab,q.1≠ρ[i].1/\q.1≠ρ[i].2/\q.2≠ρ[i].1/\q.2≠ρ[i].2:=λq d=>by
      refine ck λC=>?_;obtain⟨i',F,e1,e2⟩:=lh (S.len▸v) d;refine C ?_;exact hO S.apart e2 (az g) λz=>c (z▸aA e1)
     refine .inl ⟨λz=>z.elim (S.x4 _ hp).1.1 λ⟨q,d,z⟩=>?_,λz=>z.elim (S.x4 _ hp).1.2 λ⟨q,d,z⟩=>?_⟩
     ·exact z.elim (λz=>(r q d).1 z.symm) λz=>(r q d).2.2.1 z.symm
     ·exact z.elim (λz=>(r q d).2.1 z.symm) λz=>(r q d).2.2.2 z.symm
   rcases f with⟨D,E⟩|f
   ·have u:=(S.above p hp).2
    have nt:=S.nt p hp us;rcases z with rfl|rfl
    ·exact nt.1 (jm u.1 (λx e=>keep _ x e D) t)
    ·exact nt.2 (jm u.2 (λx e=>keep _ x e E) t)
   ·exact n (.inl (.inr ⟨p,f,z⟩))
  ·exact n (.inr z)
theorem Ys(v:∀i∈lab,i<σ.n)(l:ρ.length=σ.n):∀{y:V}{u:ag}{us:ab ag},cT (dW lab) eA x=aa y->Rep X ρ h x u us->cT (Bt lab.length σ.n q lab) (Ac σ.n) y=aa x:=by
 induction x with
 |cons a b c d=>
  rintro y v vs e ⟨u,us,rfl,g,m⟩;obtain⟨f,s,e1,e2,rfl⟩:=dO (o:=cT (dW lab) eA a) (p:=cT (dW lab) eA b) e;show dI (cT _ _ f) (cT _ _ s) _=_;rw[c e1 g,d e2 m];rfl
 |tup a w=>
  rintro y v vs e ⟨b,us,rfl,t,n,z,r⟩;obtain⟨f,e1,rfl⟩:=fI (o:=cT (dW lab) eA a) e;show ir (cT _ _ f) _=_;rw[w e1 r];rfl
 |a4 i=>
  rintro y u us e ⟨p,hp,rfl⟩;have A:i<σ.n:=l▸(aV.mp hp).1;have e:dW lab i=aa y:=e;unfold dW at e
  induction q:y8 lab i with
  |some j=>
   rw[q]at e;injection e with e;subst e
   have e1:=oI q;show Bt _ _ _ _ j=_;unfold Bt;simp only[blt_iff.mpr (aV.mp e1).1,x_,e1];rfl
  |none=>
   replace e:=q▸e
   obtain rfl:=af e;show Ac σ.n (2*i)=_;unfold Ac;rw[show bz (2*i) 2=0 by show 2*i% 2=0;exact xS 2 i,show gC (2*i) 2=i from qv i Mw,blt_iff.mpr A];rfl
 |gH k=>
  intro y u us e r;injection e with e;subst e
  show Ac σ.n (ar (2*k))=_;unfold Ac;rw[show bz (ar (2*k)) 2=1 from ae.mul_add_mod 2 k 1,show gC (ar (2*k)) 2=k from Xa Mw k 1];rfl
 |_=>intro y u us e r;obtain rfl:=af e;rfl
end
def qX(l:ab MO):TR->ae->ao TR:=@cg MO (λι=>TR->ae->ao TR) (λt ι=>aa t) (λo ι h t i=>@bl MO (λι=>ao TR) aw (λι=>h (t.set i o) (ar i)) ((t.set i o).get i)) l
def eP(l:ab MO):ae:=@cg MO (λι=>ae) 0 (λι ι n=>ar n) l
def i6(f:MO->ao MO)(t:TR)(l:ab ae):ao (ab MO):=@cg ae (λι=>ao (ab MO)) (aa []) (λi ι h=>@bl MO (λι=>ao (ab MO)) aw (λo=>dI (f o) h cQ) (t.get i)) l
noncomputable def bh(n:ae):ab ae:=@eb (λι=>ae->ab ae) (λι=>[]) (λι h i=>i::h (ar i)) n 0
def p6(m:ae)(ks:ab ae)(x:ao (V×St)):ao (V×ab MO×ab MO):=cS (r7 (cf m) ks) (cS (Aj ks) (@bl (V×St) (λι=>ao (V×ab MO×ab MO)) aw (λp=>dI (cT (iP m ks) j9 p.1) (dI (i6 (mapM (iP m ks) j9) p.2.t (bh m)) (i6 (mapM (iP m ks) j9) p.2.t ks) dE) dE) x) aw) aw
def lM(T:Tab)(N k:ae)(as:ab V)(mu:ab MO):ao (V×St):=@bl TR (λι=>ao (V×St)) aw (λt=>d' T (bg T N) k as ⟨t,eP mu⟩) (qX mu .nil 0)
def xI(l:ab MO)(i:ae)(o:MO):ab MO:=(@cg MO (λι=>ae->ab MO) (λι=>[]) (λa r h n=>qG n (o::r) (λk=>a::h k)) l) i
def d6(ups:ab (ae×MO))(mu:ab MO):ab MO:=@cg (ae×MO) (λι=>ab MO) mu (λp ι i=>xI i p.1 p.2) ups
def qp(f:V->ao V)(l:ab V):ao (ab V):=@cg V (λι=>ao (ab V)) (aa []) (λa ι i=>dI (f a) i cQ) l
def Lk(f:MO->ao MO)(lab:ab ae)(l:ab (ae×MO)):ao (ab (ae×MO)):=@cg (ae×MO) (λι=>ao (ab (ae×MO))) (aa []) (λp ι i=>dI (dI (Lj lab p.1) (f p.2) dE) i cQ) l
def Ll(f:MO->ao MO)(l:ab MO):ao (ab MO):=@cg MO (λι=>ao (ab MO)) (aa []) (λa ι i=>dI (f a) i cQ) l
def Fb(t:TR)(l:ab (ae×MO)):TR:=@cg (ae×MO) (λι=>TR) t (λp ι i=>i.set p.1 p.2) l
abbrev OF:=ab V->ab MO->ao (V×ab (ae×MO)×ab MO)
def j_(lab:ab ae)(F:OF)(as:ab V):Rm V:=λσ=>cS (dG lab aq λι r=>r7 (bH 0) r) (cS (Aj lab) (@bl (ab V×ab MO) (λι=>ao (V×St)) aw (λp=>
  @bl (V×ab (ae×MO)×ab MO) (λι=>ao (V×St)) aw (λz=>
   @bl (V×ab (ae×MO)×ab MO) (λι=>ao (V×St)) aw (λy=>ir (qX y.2.2 (Fb σ.t y.2.1) σ.n) λt=>(y.1,⟨t,aM σ.n (eP y.2.2)⟩))
    (dI (cT (Bt (ji lab) σ.n (eP z.2.2) lab) (Ac σ.n) z.1) (dI (Lk (mapM (Bt (ji lab) σ.n (eP z.2.2) lab) (Ac σ.n)) lab z.2.1) (Ll (mapM (Bt (ji lab) σ.n (eP z.2.2) lab) (Ac σ.n)) z.2.2) dE) dE))
   (F p.1 p.2))
  (dI (qp (cT (dW lab) eA) as) (i6 (mapM (dW lab) eA) σ.t lab) dE)) aw) aw
theorem uT:∀l:ab MO,eP l=l.length
 |[]=>rfl|_::r=>aY (· +1) (uT r)
theorem oJ{f:MO->ao MO}:∀{l:ab ae}{r:ab MO},i6 f t l=aa r->r.length=l.length/\∀(j i:ae),l[j]? =aa i->∃o o',t.get i=aa o/\f o=aa o'/\r[j]? =aa o'
 |[],r,e=>by obtain rfl:=af e;exact⟨rfl,λj i h=>by simp at h⟩|a::l,r,e=>by
  have e:@bl MO (λι=>ao (ab MO)) aw (λo=>dI (f o) (i6 f t l) cQ) (t.get a)=aa r:=e
  induction q:t.get a with
  |none=>replace e:=q▸e;exact b6 e|some o=>
   replace e:=q▸e
   obtain⟨o',r',e1,e2,rfl⟩:=dO e;obtain⟨b,c⟩:=oJ e2;refine⟨aY (· +1) b,λj i h=>?_⟩
   induction j with
   |zero=>obtain rfl:=af h;exact⟨o,o',q,e1,rfl⟩|succ j=>exact c j i h
theorem rK(n:ae):(bh n).length=n/\∀j,j<n->(bh n)[j]? =aa j:=by
 have main:∀(n i:ae),((@eb (λι=>ae->ab ae) (λι=>[]) (λι a i=>i::a (ar i)) n i:ab ae).length=n)/\∀j,j<n->(@eb (λι=>ae->ab ae) (λι=>[]) (λι a i=>i::a (ar i)) n i:ab ae)[j]? =aa (i+j):=by
  intro n
  induction n with
  |zero=>intro i;exact⟨rfl,λj h=>er h (e_ j)⟩|succ n a=>
   intro i;obtain⟨b,c⟩:=a (ar i);refine⟨aY (· +1) b,λj h=>?_⟩
   induction j with
   |zero=>rfl|succ j=>exact(c j (je.mp h)).trans (aY aa (hD i j))
 exact⟨(main n 0).1,λj h=>((main n 0).2 j h).trans (aY aa (dY j))⟩
theorem y':∀{l:ab MO}{t a:TR}{n:ae},qX l t n=aa a->∀i:ae,a.get i=if n<=i/\i<n+l.length then l[i - n]? else t.get i
 |[],t,a,n,e,i=>by obtain rfl:=af e;rw[aU (by simp only[mR];lia)]|o::r,t,a,n,e,i=>by
  have e:@bl MO (λι=>ao TR) aw (λι=>qX r (t.set n o) (ar n)) ((t.set n o).get n)=aa a:=e
  induction q:(t.set n o).get n with
  |none=>exact b6 (q▸e)|some x=>
   rw[q]at e;simp only[y' e i,cY]
   by_cases c:ar n<=i/\i<ar n+r.length
   ·rw[bc c,bc ⟨eW c.1,hD n r.length▸c.2⟩,show i - n=(i - ar n)+1 by rw[vq,DM,iF (o9 c.1)],hL]
   ·rw[aU c,TR.pf o t n i (by rw[q];rfl)]
    by_cases b:i=n
    ·clear e
     clear e;subst b;rw[bc rfl,bc ⟨aF _,qu (k9 _)⟩,IK];rfl
    ·rw[aU b,aU λq=>c ⟨Rq q.1 (Ne.symm b),(hD n r.length).symm▸q.2⟩]
theorem Fc(o:MO):∀(l:ab MO)(i:ae),(xI l i o).length=l.length
 |[],b=>rfl|a::r,0=>rfl|a::r,i+1=>aY (· +1) (Fc o r i)
theorem C4(o:MO):∀(l:ab MO)(i j:ae),(xI l i o)[j]? =if j=i/\j<l.length then aa o else l[j]?
 |[],i,j=>by rw[aU (by simp)];rfl|a::r,0,j=>by
  induction j with
  |zero=>rw[bc (And.symm (Jk rfl))];rfl|succ j=>rw[aU (kZ rfl)];rfl
 |a::r,i+1,j=>by
  show(a::xI r i o)[j]? =_
  induction j with
  |zero=>rw[aU (kZ rfl)];rfl|succ j=>
   simp only[hL,C4 o r i j,hL,cY]
   by_cases c:j=i/\j<r.length
   ·rw[bc c,bc ⟨aY (· +1) c.1,VP c.2⟩]
   ·rw[aU c,aU λq=>c ⟨o8 q.1,eV q.2⟩]
theorem za:∀(ups:ab (ae×MO))(mu:ab MO),(d6 ups mu).length=mu.length
 |[],a=>rfl|p::r,mu=>by
  show(xI (d6 r mu) p.1 p.2).length=_;rw[Fc,za r mu]
section
variable{X:Ctx}{P:bZ}{ρ jk:fO}{h h' :bJ}{σ:St}{lab:ab ae}{f:MO->ao MO}
theorem Bv(T:Turn X g ρ h jk h' L Q):∀{as b:ab V}{us:ab ag},qp (cT L Q) as=aa b->gi X ρ h (cu as) us->gi (wf X g) jk h' (cu b) us
 |[],b,us,e,r=>by obtain rfl:=af e;exact⟨trivial,r.rep⟩|a::as,b,us,e,r=>by
  obtain⟨i,s,e1,e2,rfl⟩:=dO (o:=cT L Q a) (p:=qp (cT L Q) as) e;obtain⟨u,q,rfl,c,d⟩:=r.rep;have:=Bv T e2 ⟨r.lst,d⟩;exact⟨this.lst,u,q,rfl,Rep.turn T e1 c,this.rep⟩
theorem C5:∀{l r:ab MO},Ll f l=aa r->r.length=l.length/\∀(j:ae)o',r[j]? =aa o'->∃o,l[j]? =aa o/\f o=aa o'
 |[],r,e=>by obtain rfl:=af e;exact⟨rfl,λj o' h=>by simp at h⟩|a::l,r,e=>by
  obtain⟨c,r',e1,e2,rfl⟩:=dO (o:=f a) (p:=Ll f l) e;have b:=(C5 e2).2;refine⟨aY (· +1) ((C5 e2).1),λj o' h=>?_⟩
  cases j with
  |zero=>obtain rfl:=af h;exact⟨a,rfl,e1⟩|succ j=>exact b j o' h
theorem C6(g:lab.Nodup)(m:mu.length=lab.length)(v:∀(j i:ae),lab[j]? =aa i->(t.get i).isSome=aq):∀{ups u:ab (ae×MO)},Lk f lab ups=aa u->
  (∀i,(t.get i).isSome=aq->((Fb t u).get i).isSome=aq)/\
  ∀i o,(Fb t u).get i=aa o->(t.get i=aa o/\∀j:ae,lab[j]? =aa i->(d6 ups mu)[j]? =mu[j]?)\/∃(j:ae)(x:MO),lab[j]? =aa i/\(d6 ups mu)[j]? =aa x/\f x=aa o
 |[],u,e=>by obtain rfl:=af e;exact⟨λι h=>h,λi o h=>.inl ⟨h,λι ι=>rfl⟩⟩|p::r,u,e=>by
  obtain⟨w,r',e1,e2,rfl⟩:=dO (o:=dI (Lj lab p.1) (f p.2) dE) (p:=Lk f lab r) e;obtain⟨i0,o0,e3,e4,rfl⟩:=dO (o:=Lj lab p.1) (p:=f p.2) e1;rw[x_]at e3;have k:=(C6 g m v e2).1;have l:=(C6 g m v e2).2;have s:=TR.pf o0 (Fb t r') i0;have hp:=TR.qK o0 _ _ (k i0 (v _ _ e3));have n:∀{j i:ae},lab[j]? =aa i->i≠i0->(d6 (p::r) mu)[j]? =(d6 r mu)[j]? :=λ{j i}e ne=>by
   show(xI (d6 r mu) p.1 p.2)[j]? =_;rw[C4,aU λz=>ne ?_];have:=z.1▸e;exact af (this.symm.trans e3)
  refine⟨λi q=>?_,λi o h=>?_⟩
  ·show(((Fb t r').set i0 o0).get i).isSome=aq
   rw[s i hp]
   by_cases c:i=i0
   ·rw[bc c];rfl
   ·rw[aU c];exact k i q
  ·have h:((Fb t r').set i0 o0).get i=aa o:=h
   rw[s i hp]at h
   by_cases c:i=i0
   ·rw[bc c]at h
    obtain rfl:=af h;clear s
    cases c
    refine .inr ⟨p.1,p.2,e3,?_,e4⟩;show(xI (d6 r mu) p.1 p.2)[p.1]? =_;rw[C4,bc ⟨rfl,by simp only[za,m];exact(aV.mp e3).1⟩]
   ·rw[aU c]at h
    rcases l i o h with⟨a,b⟩|⟨j,x,a,b,d⟩
    ·exact .inl ⟨a,λj e=>(n e c).trans (b j e)⟩
    ·exact .inr ⟨j,x,a,(n a c).trans b,d⟩
theorem TU(u:∀{x y v vs},cT L Q x=aa y->Rep X ρ h x v vs->cT c d y=aa x)(e:cT L Q a=aa b)(r:eJ (Rep X ρ h) P a es):cT c d b=aa a:=by
 induction r generalizing b with
 |nil=>exact af e▸rfl|@cons x y q n s k g f i=>
  obtain⟨m,j,e1,e2,rfl⟩:=dO (o:=cT L Q (.cons x y)) (p:=cT L Q q) e;obtain⟨t,l,e3,e4,rfl⟩:=dO (o:=cT L Q x) (p:=cT L Q y) e1;clear e1;obtain rfl:=af ((D5.cT k).symm.trans e3);show dI (dI (cT c d x) (cT c d l) V.cons) (cT c d j) V.cons=_;simp only[u e4 g,i e2,D5.cT k];rfl
theorem ia.untouched(S:h5 X P ρ σ h)(v:∀i∈lab,i<σ.n)(T:Turn (wf X (y9 ρ X.fv)) X.fv (sel ρ lab++nw) h' (ρ++nw) h' (Bt lab.length σ.n q lab) (Ac σ.n))(g:ia X P ρ h p o)(e:mapM (dW lab) eA o=aa o')(r:ia (wf X (y9 ρ X.fv)) P (sel ρ lab++nw) h' p o'):ia X P (ρ++nw) h' p o:=by
 have s:∀{x y I vs},cT (dW lab) eA x=aa y->Rep X ρ h x I vs->cT (Bt lab.length σ.n q lab) (Ac σ.n) y=aa x:=λe r=>Ys v S.len e r;have A:mapM (Bt lab.length σ.n q lab) (Ac σ.n) o' =aa o->ia X P (ρ++nw) h' p o:=λJ=>ia.turn (X:=wf X (y9 ρ X.fv)) T (λι e=>e) (λι e=>e) J r
 cases o with
 |list l=>
  refine ck λk=>?_;obtain⟨C,e3,rfl⟩:=fI (o:=cT (dW lab) eA l) e;obtain⟨_,_,_,_,_,_,d⟩:=g;refine k ?_;refine A ?_;show ir (cT _ _ C) _=_;rw[s e3 d];rfl
 |dict l ep=>
  obtain⟨C,e3,rfl⟩:=fI (o:=cT (dW lab) eA l) e;obtain⟨_,_,_,_,d⟩:=g;refine A ?_;show ir (cT _ _ C) _=_;rw[TU s e3 d];rfl
 |inst c as=>
  clear A;obtain⟨L,e3,rfl⟩:=fI (o:=uS (dW lab) eA as) e;refine ck λk=>?_;obtain⟨_,_,_,_,_,D,g⟩:=g;obtain⟨a,m,b,⟨od,es,n,M,N,O,Q⟩,d,ok,R⟩:=r;refine k ?_;refine⟨a,m,b,⟨od,es,n,M,N,by exact(y7 e3)▸O,Q⟩,d,D,λx n G=>?_⟩
  have H:=g x n G;have j:=R x n G;rcases rJ (n:=n) e3 with⟨x1,E⟩|⟨w,Y,x1,E,U⟩
  ·rw[x1];rw[E]at j;exact j
  ·rw[x1]at H⊢;rw[E]at j
   refine ck λk=>?_;obtain⟨Z,_,W⟩:=H;obtain⟨u,F,z⟩:=j;refine k ?_;exact⟨u,F,Rep.turn (X:=wf X (y9 ρ X.fv)) T (s U W) z⟩
 |jv l=>
  injection e with e;subst e
  exact r
 |jg t=>
  injection e with e;subst e
  exact r
end
def Good(n j:ae)(as:ab V)(σ:St)(v:V)(τ:St):Prop:=∀(G:Gm),HX G.w G.X->∀(us:ab ag)(k:Kf),pj G k as us->SR G k σ->∀(A:aW)(Q:c8->ah->Prop),el A n->
 (∀u k',Le k k'->SR G k' τ->RV G k' v u->Q (.ok (.ret u)) (sh G.b k'))->dg (Md G.w) A (.call (.ref (G.X.jV j)) ⟨us,[]⟩) Q (sh G.b k)
def dH(n:ae)(o:ae->ab V->Rm V):Prop:=∀j as σ v τ,o j as σ=aa (v,τ)->Good n j as σ v τ
theorem Good.more(g:Good n j as σ v τ)(l:n<=m):Good m j as σ v τ:=λG H us k r S A Q R q=>g G H us k r S A Q (R.less l) q
theorem dH.more(g:dH n o)(l:n<=m):dH m o:=λj as σ v τ e=>(g j as σ v τ e).more l
theorem HX.wf(H:HX w X)(f:ae->ag):HX w (M.Internal.wf X f):=⟨H.h0,H.jV,H.h_,H.Gd⟩
theorem dH.TN(g:dH n o)(H:HX G.w G.X):qT G (kH G.w.params) (gh o) n:=M.Internal.TN H λ{j as us k σ}r v τ e S A Q R q=>g j as σ v τ e G H us k r S A Q R q
noncomputable def O0:ae->ab V->Rm V:=λι ι=>bW
theorem eQ:dH 0 O0:=λι ι ι ι ι e=>b6 e
theorem kc(hb:n<=b/\8<=b)(g:dH n o)(e:d' (gh o) (bg (gh o) N) j as σ=aa (v,τ)):Good (b+2*N+1) j as σ v τ:=λG H us k u S A Q R q=>
 yU (G:=G) (K:=kH G.w.params) (T:=gh o) (mm:=n) (n:=b+2*N) (k:=k) (σ:=σ) (r:=bg (gh o) N) (g.TN H) (CX (g.TN H) hb N) (bq hb.1 (bp ..)) u v τ e S A Q R q
theorem Bw:∀(a b:ab cF),eY (a++b) env=(eY a env>>=λf=>match f with|.next=>eY b env|f=>pure f)
 |[],b=>by rw[execs_nil];simp|m::a,b=>by
  simp only[ab.cons_append,execs_cons,execs_cons,bind_assoc];refine aY (oW m env>>=·) (funext λf=>?_);rcases f<;>simp[Bw a b]
section
variable{M:dZ}{A:aW}{s:ah}{E:ag->ah->Prop}{env:Env}
theorem sP{Q:tT->ah->Prop}(h:bk M A (eY a env) (λf c=>match f with|.next=>bk M A (eY b env) Q E c|f=>Q f c) E s):bk M A (eY (a++b) env) Q E s:=by
 rw[Bw];refine aj (aI h (λf c h' =>?_) λι ι e=>e);rcases f<;>first|exact h' |exact aO h'
theorem wb{a:ag->ah->Prop}(h:bk M A t (λι ι=>jD) E s)(he:∀e b,E e b->a e b):bk M A t Q a s:=aI h (λι ι f=>f.elim) he
end
section
variable{G:Gm}{K:jT}{T:Tab}{mm n m:ae}{k:Kf}{σ σ1:St}{r r' :Rec}{sc:Sc}{re lK:aX}{env:Env}{pos:Pos}
def p7(r:Rec)(sc:Sc)(xs:ab ae)(body:ab cF)(m:ae):It->aX->Rm aX:=@eb (λι=>It->aX->Rm aX) (λi re=>Aa i bW λv j=>opt (d9 xs j v re) λre1=>rt re1)
 (λι h i re=>Aa i bW λv j=>opt (d9 xs j v re) λre1=>b8 (r.ex sc body re1) λp=>Fl.casesOn p.1 (h j p.2) λι=>bW) m
theorem Hv(I:∀{re:aX}{k:Kf}{σ:St},cB G k env sc re->cU G n (cy env) k σ (r.ex sc body re) (RF G env sc) (eY body env))(P:1<=n)(U:dr sc t=aa xs){z:fO->bJ->It->Prop}{F:ag->fO->bJ->It->Prop}(IO:pD G.X G.w W wr z F){k0:Kf}(cP:∀a∈wr,k0.h.get? a=aw)(m:ae):
  ∀{i:It}{re:aX}{k:Kf}{σ:St},cB G k env sc re->z k.ρ k.h i->bY k0.ρ k0.h k.ρ k.h (cy env)->p7 r sc xs body m i re σ=aa (lK,τ)->SR G k σ->∀A(Q:c8->ah->Prop),el A n->
   (∀k',bY k0.ρ k0.h k'.ρ k'.h (cy env)->SR G k' τ->cB G k' env sc lK->bk (Md G.w) A (eY body env) (λι ι=>jD) (EV G.w A env Q) (sh G.b k'))->dg (Md G.w) A (.forLoop t (.ref W) body [] env) Q (sh G.b k):=by
 induction m with
 |zero=>
  intro i re k σ R st H e S A Q C q;rcases uK e with⟨_,J⟩|⟨v,j,L,u⟩
  ·exact b6 J
  ·refine ck λN=>?_
   obtain⟨x,hb,u⟩:=lb u
   cases u
   exact N (yW P U IO cP R st H L hb S C λl c g d yX=>wb (q l g d yX) λι ι e=>e)
 |succ m ih=>
  intro i re k σ R st H e S A Q C q;have e:Aa i bW (λv j=>opt (d9 xs j v re) λre1=>b8 (r.ex sc body re1) λp=>Fl.casesOn p.1 (p7 r sc xs body m j p.2) λι=>bW) σ=aa (lK,τ):=e;rcases uK e with⟨_,J⟩|⟨v,j,L,u⟩
  ·exact b6 J
  ·refine ck λN=>?_
   obtain⟨x,hb,u⟩:=lb u;obtain⟨⟨fl,O⟩,y,e1,e2⟩:=br u;refine N ?_;refine yW P U IO cP R st H L hb S C λl c g d yX=>I yX _ y e1 d A _ _ C λf Y o D Z=>?_
   induction fl with
   |next=>
    exact(show f=.next from Z.2)▸ih Z.1 (IO.frame c o yX.sa) (g.trans o) e2 D A Q C q
   |ret v=>exact b6 e2
theorem Lm(H:qT G K T mm)(I:gw G r n)(d:8<=n)(B:∀{re:aX}{k:Kf}{σ:St},cB G k env sc re->cU G n (cy env) k σ (r'.ex sc body re) (RF G env sc) (eY body env))(e:dr sc t=aa xs)(R:cB G k env sc re)(he:b8 (la r sc it re) (λi=>p7 r' sc xs body m i re) σ=aa (lK,τ))(S:SR G k σ){A:aW}(RA:el A n){Q:tT->ah->Prop}{E:ag->ah->Prop}(hb:∀k',bY k.ρ k.h k'.ρ k'.h (cy env)->SR G k' τ->cB G k' env sc lK->bk (Md G.w) (A.mark aw) (eY body env) (λι ι=>jD) (lE (Md G.w) (A.mark aw) env (gJ (Md G.w) A env E)) (sh G.b k')):
  bk (Md G.w) A (oW (.For t it body [] pos) env) Q E (sh G.b k):=by
 obtain⟨i,a,e1,he⟩:=br he;have f:dU (isSet it)=aq:=by
  induction h:dU (isSet it) with
  |true=>rfl|false=>unfold la at e1;exact b6 (h▸e1)
 refine Ja (JA H I d R i a e1 S A _ E RA λv k₁ l c g=>?_) λx=>oG f x;obtain⟨p,wr,j,o,rfl,IO,st,cP⟩:=g;exact Hv B (by lia) e IO cP m (R.mono l) st l.wk he c (A.mark aw) _ RA.mark hb
theorem zb(H:qT G K T mm)(I:gw G r n)(hf:∃x p,f=.Name x p)(d:fb es=aq)(R:cB G k env sc re)(e1:r.ev sc f re σ=aa (.fn j,σ1))(e2:te r sc re es σ1=aa (vs,τ))(S:SR G k σ)(q:el A n){Q:ag->ah->Prop}{E:ag->ah->Prop}(t:∀us k',Le k k'->SR G k' τ->pj G k' vs us->dg (Md G.w) A (.call (.ref (G.X.jV j)) ⟨us,[]⟩) (λx g=>match x with|.ok (.ret v)=>Q v g|.ok _=>jD|.error e=>E e g) (sh G.b k')):
  bk (Md G.w) A (cn (.Call f es [] pos) env) Q E (sh G.b k):=by
 obtain⟨x,p,rfl⟩:=hf;rw[xT];refine aj (I.ev R _ _ e1 S A _ E q λu k₁ a qU i=>?_);have i:=i;subst i;have fin:=λus k' l S' o=>by
  exact ib (t us k' (a.trans l) S' o)
 refine j3 (by rw[(plain_any d).1];rfl) (H.Jy j) ?_
 induction es using a6 with
 |nil=>
  obtain⟨rfl,rfl⟩:=av (af e2);exact aT (Mt ⟨qU.base,fin [] k₁ (Le.refl k₁) qU ⟨trivial,rfl⟩⟩)
 |cons e es=>
  have y:=rF (pos:=pos) I d (R.mono a) vs τ e2 qU A (λus c=>Z8 G.X c.heap/\bk (Md G.w) A (call (.ref (G.X.jV j)) us) Q E c) E q λus k' l S' o=>⟨S'.base,fin us k' l S' o⟩;exact((jx d).1)▸jr (aI (((jx d).1)▸y) (λus g h=>by exact⟨h.1,by exact h.2⟩) λι ι e=>e)
end
set_option backward.match.sparseCases false in
noncomputable def aeA:ag->ab cK
 |.bytes b a=>b.toList|_=>[]
noncomputable def aeq(l:ab cK):ao cK:=dG l aw λx q=>dG q (aa x) λι ι=>aw
noncomputable def lN(v:ag):ao cK:=aeq (aeA v)
theorem aej(h:aeq l=aa x):l=[x]:=by
 induction l using a6 with
 |nil=>exact b6 h|cons y q=>
  induction q using a6 with
  |nil=>exact aY (λy=>[y]) (af h)|cons=>exact b6 h
theorem ze(h:lN v=aa x):∃b t,v=.bytes b t/\b.toList=[x]:=by
 induction v with
 |bytes b t=>exact⟨b,t,rfl,aej h⟩|_=>exact b6 h
@[reducible] noncomputable def g9:KeyKind where
 α:=ae
 blt a b:=decide (a<b)
 irrefl a:=by simp
 trans a b c h1 h2:=cc (g8 (eH h1) (eH h2))
 negTrans a b c h:=(xU a b).imp cc λg=>cc (cD g (eH h))
 total a b h1 h2:=gZ (h4 (kZ h2)) (h4 (kZ h1))
 keyOf v:=(lN v).map xt
 dflt:=0
section
variable{prog:bS}{w:bU}{A:aW}{E:ag->ah->Prop}{s:ah}
theorem Ax{Q:ag->ah->Prop}(h:Q (.bool (kG "__lt__" (gF b.toList c.toList))) s):
  bO (bK prog w) A (call (.builtin "bytes.__lt__") [.bytes b t,.bytes c u]) Q E s:=by
 exact call_givesAt (P:=λι=>True) n8 (jR s b t) (B:=Builtin.«bytes.__lt__») (iD (⋯)) (sD _ _) (qO b c t u).at trivial h
theorem Fd{Q:aE->ah->Prop}(hb:b.toList=[x])(a:c.toList=[y])(h:Q (decide (x.toNat<y.toNat)) s):bO (bK prog w) A (oneLt' aq (.bytes b t) (.bytes c u)) Q E s:=by
 have e:kG "__lt__" (gF b.toList c.toList)=decide (x.toNat<y.toNat):=by
  simp only[hb,a];unfold gF
  by_cases h:x.toNat<y.toNat
  ·rw[bc (iK.mpr h),cc h];rfl
  ·rw[aU λq=>h (iK.mp q),bw h]
   by_cases h' :y.toNat<x.toNat
   ·rw[bc (iK.mpr h')];rfl
   ·rw[aU λq=>h' (iK.mp q)];rfl
 rw[oneLt'_eq];refine ak (wpAny_cRoomFor_byValue rfl ?_);refine ak (wpAny_callSpecialIfBound?_slot (jR s b t) n8 (Ax ?_));exact e▸fi h
end
theorem Ay:g9.OneLt:=by
 intro prog w A E s x y a b Q c hb h;refine ck λk=>?_;obtain⟨i,d,rfl⟩:=jZ.mp c;obtain⟨j,e,rfl⟩:=jZ.mp hb;obtain⟨l,t1,rfl,f⟩:=ze d;obtain⟨m,t2,rfl,g⟩:=ze e;refine k ?_;exact Fd f g h
section
variable{κ:KeyKind}{ix:gW->ae}{xs ys:Array gW}
noncomputable def IX(ix:gW->ae)(xs:Array gW)(i:ae):ae:=match xs[i]? with
 |some p=>ix p|none=>0
theorem O1(h:xs[i]? =ys[j]?):IX ix xs i=IX ix ys j:=by unfold IX;rw[h]
def LT(κ:KeyKind)(ix:gW->ae)(xs:Array gW)(i j:ae):Prop:=κ.klt (KK κ xs i) (KK κ xs j)\/(KK κ xs i=KK κ xs j/\IX ix xs i<IX ix xs j)
structure At(κ:KeyKind)(ix:gW->ae)(xs ys:Array gW)(i i' :ae):Prop where
 kk:KK κ ys i=KK κ xs i'
 ix:IX ix ys i=IX ix xs i'
theorem At.of(h:ys[i]? =xs[i']?):At κ ix xs ys i i' :=⟨KK_congr h,O1 h⟩
theorem LT.at(a:At κ ix xs ys i i')(b:At κ ix xs ys j c)(h:LT κ ix xs i' c):LT κ ix ys i j:=by
 unfold LT at*;rw[a.kk,a.ix,b.kk,b.ix];exact h
theorem Bx{a:ae}{p:Prop}(h:a<a):p:=er h (ae.lt_irrefl a)
theorem Hw(e:a+c+1=s)(hb:b+d+1=s)(h:a<b):d<c:=by lia
theorem zd(e:a+c+1=i+j)(h:i<=a)(d:a<j):i<=c/\c<j:=
 ⟨ae.le_of_add_le_add_right (b:=a+1) (bq (nk d i) (iz (e.symm.trans (aY (· +1) (nM a c))))),ae.le_of_add_le_add_left (a:=i) (bq (aef h (c+1)) (iz e))⟩
theorem tI(a:j<=xs.size)(b:i<=k)(h:k<j):∃k',k+k' +1=i+j/\At κ ix xs (mirror xs i j ((j - i)/ 2)) k k' :=
 ⟨i+j - 1 - k,by rw[ae.add_sub_of_le (fM (bN h (iL j i))),iF (bN (cD (bj k) h) (iL j i))],.of ((xV a k).trans (bc ⟨b,h⟩))⟩
theorem ya{i j k:ae}(a:j<=xs.size)(h:k<i\/j<=k):At κ ix xs (mirror xs i j ((j - i)/ 2)) k k:=
 .of ((xV a k).trans (aU λq=>h.elim (λz=>Bx (bN z q.1)) λz=>Bx (bN q.2 z)))
theorem C7{k l:ae}(h:k<xs.size)(a:l<=k)(i:ae):(bubble xs k (k - l))[i]? =if i=l then xs[k]? else if l<i/\i<=k then xs[i - 1]? else xs[i]? :=by
 have e:=getElem?_bubble h (k - l) (wW k l) i;rwa[ae.sub_sub_self a]at e
theorem Hx(a:k<xs.size)(b:l<=k)(c:i<=k):∃i',At κ ix xs (bubble xs k (k - l)) i i'/\((i<l/\i' =i)\/(i=l/\i' =k)\/(l<i/\i' +1=i)):=by
 rcases xW i l with h|h|h
 ·exact⟨i,.of ((C7 a b i).trans ((aU (df h)).trans (aU λq=>nN h q.1))),.inl ⟨h,rfl⟩⟩
 ·exact⟨k,.of ((C7 a b i).trans (bc h)),.inr (.inl ⟨h,rfl⟩)⟩
 ·exact⟨i - 1,.of ((C7 a b i).trans ((aU (nL h)).trans (bc ⟨h,c⟩))),.inr (.inr ⟨h,iF (VS h)⟩)⟩
theorem JI{k l i:ae}(b:k<xs.size)(h:l<=k)(a:k<i):At κ ix xs (bubble xs k (k - l)) i i:=
 .of ((C7 b h i).trans ((aU (nL (cD h a))).trans (aU λq=>Bx (bN a q.2))))
def Tail(ix:gW->ae)(xs:Array gW)(x n:ae):Prop:=∀i j,i<j->x<=j->j<n->IX ix xs i<IX ix xs j
def Lex(κ:KeyKind)(ix:gW->ae)(xs:Array gW)(k:ae):Prop:=∀i j,i<j->j<k->LT κ ix xs i j
def Az(κ:KeyKind)(ix:gW->ae)(xs:Array gW)(k:ae):Prop:=∀i j,i<j->j<k->LT κ ix xs j i
theorem Tail.le(t:Tail ix xs x n)(l:x<=y):Tail ix xs y n:=λi j a b c=>t i j a (bq l b) c
theorem Tail.mirror(κ:KeyKind)(d:j<=xs.size)(l:j<=x)(t:Tail ix xs x n):Tail ix (mirror xs i j ((j - i)/ 2)) x n:=λa b g c f=>by
 have k:At κ ix xs _ b b:=ya (i:=i) d (.inr (bq l c));rw[k.ix]
 by_cases h:i<=a/\a<j
 ·obtain⟨m,e,z⟩:=tI (κ:=κ) (ix:=ix) d h.1 h.2
  rw[z.ix];exact t m b (bN (zd e h.1 h.2).2 (bq l c)) c f
 ·have z:At κ ix xs _ a a:=.of ((xV d a).trans (aU h))
  rw[z.ix];exact t a b g c f
theorem Tail.bubble(κ:KeyKind)(b:k<xs.size)(d:l<=k)(t:Tail ix xs k n):Tail ix (bubble xs k (k - l)) (k+1) n:=λi j f a e=>by
 have g:At κ ix xs _ j j:=JI b d a;rw[g.ix]
 by_cases h:i<=k
 ·obtain⟨i',z,c⟩:=Hx (κ:=κ) (ix:=ix) b d h
  rw[z.ix];refine t i' j (cD ?_ a) (eW a) e;rcases c with⟨_,rfl⟩|⟨_,rfl⟩|⟨_,rfl⟩
  ·exact h
  ·exact aF _
  ·exact eW h
 ·have z:At κ ix xs _ i i:=JI b d (VT h)
  rw[z.ix];exact t i j f (eW a) e
theorem LT.kle(h:LT κ ix xs i j):κ.kle (KK κ xs i) (KK κ xs j):=h.elim Mx λe=>e.1▸qw _
theorem Lex.kle(h:Lex κ ix xs k)(a:i<=j)(b:j<k):κ.kle (KK κ xs i) (KK κ xs j):=by
 rcases Rr a with l|rfl
 ·exact(h i j l b).kle
 ·exact qw _
theorem Az.kle(h:Az κ ix xs k)(a:i<=j)(b:j<k):κ.kle (KK κ xs j) (KK κ xs i):=by
 rcases Rr a with l|rfl
 ·exact(h i j l b).kle
 ·exact qw _
theorem Lex.rev(h:Lex κ ix xs n)(c:n<=xs.size):Az κ ix (mirror xs 0 n ((n - 0)/ 2)) n:=λi j a b=>by
 obtain⟨i',e,z⟩:=tI (κ:=κ) (ix:=ix) c (bj i) (g8 a b);obtain⟨d,f,g⟩:=tI (κ:=κ) (ix:=ix) c (bj j) b;exact .at g z (h d i' (Hw e f a) (zd e (bj i) (g8 a b)).2)
theorem Az.rev(h:Az κ ix xs n)(c:n<=xs.size):Lex κ ix (mirror xs 0 n ((n - 0)/ 2)) n:=λi j a b=>by
 obtain⟨i',e,z⟩:=tI (κ:=κ) (ix:=ix) c (bj i) (g8 a b);obtain⟨d,f,g⟩:=tI (κ:=κ) (ix:=ix) c (bj j) b;exact .at z g (h d i' (Hw e f a) (zd e (bj i) (g8 a b)).2)
theorem Wt(h:κ.kle (KK κ xs i) (KK κ xs j))(l:IX ix xs i<IX ix xs j):LT κ ix xs i j:=by
 induction c:κ.blt (KK κ xs i) (KK κ xs j) with
 |true=>exact .inl c|false=>exact .inr ⟨ta h c,l⟩
theorem Lex.bubble{k l n:ae}(o:k<xs.size)(f:l<=k)(t:Tail ix xs k n)(kn:k<n)(h:Lex κ ix xs k)(lo:∀i,i<l->κ.kle (KK κ xs i) (KK κ xs k))(r:∀i,l<=i->i<k->κ.klt (KK κ xs k) (KK κ xs i)):Lex κ ix (bubble xs k (k - l)) (k+1):=λi j c d=>by
 replace d:=ey d
 obtain⟨i',z,a⟩:=Hx (κ:=κ) (ix:=ix) o f (bq (nJ c) d);obtain⟨u,p,b⟩:=Hx (κ:=κ) (ix:=ix) o f d;refine .at z p ?_;clear z p;rcases a with⟨m,rfl⟩|⟨rfl,rfl⟩|⟨q,rfl⟩
 ·rcases b with⟨e,rfl⟩|⟨rfl,rfl⟩|⟨g,rfl⟩
  ·exact h _ _ c (bN e f)
  ·exact Wt (lo _ m) (t _ _ (bN m f) (aF _) kn)
  ·exact h _ _ (bN m (ey g)) d
 ·rcases b with⟨e,rfl⟩|⟨rfl,rfl⟩|⟨g,rfl⟩
  ·exact er e (nN c)
  ·exact Bx c
  ·exact .inl (r _ (ey g) d)
 ·rcases b with⟨e,rfl⟩|⟨rfl,rfl⟩|⟨g,rfl⟩
  ·exact er (g8 q c) (nN e)
  ·exact er q (nN c)
  ·exact h _ _ (eV c) d
structure DI(κ:KeyKind)(ix:gW->ae)(xs:Array gW)(x b:ae):Prop where
 lt:b<x
 pre:Az κ ix xs b
 mid:∀i j,i<b->b<=j->j<x->κ.klt (KK κ xs j) (KK κ xs i)
 same:∀j,b<=j->j<x->KK κ xs j=KK κ xs (x - 1)
 ord:∀i j,i<j->b<=i->j<x->IX ix xs i<IX ix xs j
theorem DI.turn(d:DI κ ix xs x b)(c:x<=xs.size):Az κ ix (mirror xs b x ((x - b)/ 2)) x:=λi j e f=>by
 by_cases h:j<b
 ·exact .at (ya c (.inl h)) (ya c (.inl (g8 e h))) (d.pre i j e h)
 ·replace h:=h4 h
  obtain⟨g,l,z⟩:=tI (κ:=κ) (ix:=ix) c h f;have r:=zd l h f
  by_cases a:i<b
  ·exact .at z (ya c (.inl a)) (.inl (d.mid i g a r.1 r.2))
  ·replace a:=h4 a
   obtain⟨i',m,n⟩:=tI (κ:=κ) (ix:=ix) c a (g8 e f);have k:=zd m a (g8 e f);exact .at z n (.inr ⟨(d.same g r.1 r.2).trans (d.same i' k.1 k.2).symm,d.ord g i' (Hw m l e) r.1 k.2⟩)
theorem DI.flat(d:DI κ ix xs (b+1) b):Az κ ix xs (b+1):=λi j a x=>by
 rcases xU j b with h|h
 ·exact d.pre i j a h
 ·exact .inl (d.mid i j (bN a (ey x)) h x)
theorem DI.start{b:ae}(r:Az κ ix xs b)(h:∀i,i<b->κ.klt (KK κ xs b) (KK κ xs i)):DI κ ix xs (b+1) b:=by
 have one:∀j,b<=j->j<b+1->b=j:=λj a c=>gZ a (ey c);exact⟨z9 b,r,λi j d a c=>one j a c▸h i d,λj a c=>one j a c▸rfl,λi j e a c=>Bx (bN e (bq (ey c) a))⟩
theorem DI.kle(d:DI κ ix xs x b)(h:i<=j)(c:j<x):κ.kle (KK κ xs j) (KK κ xs i):=by
 rcases xU j b with a|a
 ·exact d.pre.kle h a
 ·rcases xU i b with e|e
  ·exact Mx (d.mid i j e a c)
  ·rw[d.same i e (cD h c),d.same j a c];exact qw _
theorem DI.more(d:DI κ ix xs x b)(e:KK κ xs x=KK κ xs (x - 1))(t:∀i,i<x->IX ix xs i<IX ix xs x):DI κ ix xs (x+1) b:=by
 have up:∀j,j<x+1->j<x\/j=x:=λj h=>Ga.mp h;refine⟨k_ d.lt,d.pre,λi j f a c=>?_,λj a c=>?_,λi j g a c=>?_⟩
 ·rcases up j c with h|rfl
  ·exact d.mid i j f a h
  ·rw[e];exact d.mid i _ f (fM d.lt) (mL d.lt)
 ·rcases up j c with h|rfl
  ·exact(d.same j a h).trans e.symm
  ·rfl
 ·rcases up j c with h|rfl
  ·exact d.ord i j g a h
  ·exact t i g
end
section
variable{prog:bS}{w:bU}{A:aW}{E:ag->ah->Prop}{s:ah}{a₀:Array gW}{κ:KeyKind}{ix:gW->ae}
theorem O2{st:ml}{a r:ae}{Q:_->ml->Prop}(O:κ.OneLt)(o:KeysOf κ a₀)(p:r<=a₀.size)(u:1<=a)(f:a<=r)(hB:pW a₀ st)(tl:Tail ix (cj st) a r)(q:Lex κ ix (cj st) a)(h:∀n,a<=n->n<=r->Lex κ ix (cj st) n->(n=r\/κ.klt (KK κ (cj st) n) (KK κ (cj st) (n - 1)))->Q (aw,n) st):
  wpS (bK prog w) A E s (ascLoop a r) Q st:=by
 refine oZ (I:=λx c t=>t=st/\c=(aw,x)/\Lex κ ix (cj st) x) ?F8 ?fin ⟨rfl,rfl,q⟩
 case fin=>
  rintro c t ⟨rfl,rfl,b⟩;rw[qx f]at b⊢;exact h r f (aF _) b (.inl rfl)
 case F8=>
  rintro x c t g e ⟨rfl,rfl,b⟩;have m:=bN e p;refine dX (IL O hB o m (cD (wW x 1) m) ?_)
  induction l:κ.blt (KK κ (cj t) x) (KK κ (cj t) (x - 1)) with
  |true=>exact f_ (h x g (eW e) b (.inr l))|false=>
   refine f_ ⟨rfl,rfl,λi j d k=>?_⟩;rcases Ga.mp k with k|rfl
   ·exact b i j d k
   ·exact Wt (xx (b.kle (fM d) (mL d)) l) (tl i j d g e)
theorem Fe{st:ml}{n r:ae}{Q:ao ae->ml->Prop}(O:κ.OneLt)(i:KeysOf κ a₀)(f:r<=a₀.size)(g:1<=n)(a:n<=r)(hB:pW a₀ st)(tl:Tail ix (cj st) n r)(j:Az κ ix (cj st) n)(h:∀m t,pW a₀ t->1<=m->m<=r->Tail ix (cj t) m r->Lex κ ix (cj t) m->Q (aa m) t):
  wpS (bK prog w) A E s (tail3 n r) Q st:=by
 have hsz:n<=(cj st).size:=by rw[hB.size];exact bq a f
 have b:pW a₀ (setArr st (mirror (cj st) 0 n ((n - 0)/ 2))):=hB.setArr (DU _ _ _ _);have l:Tail ix (cj (setArr st (mirror (cj st) 0 n ((n - 0)/ 2)))) n r:=tl.mirror κ hsz (aF _);exact dX (DV (dX (O2 (ix:=ix) O i f g a b l (j.rev hsz) λm c d e ι=>f_ (h m _ b (bq g c) d (l.le c) e))))
theorem TV{st:ml}{n r:ae}{Q:_->ml->Prop}(O:κ.OneLt)(y:KeysOf κ a₀)(C:r<=a₀.size)(v:n+1<=r)(hB:pW a₀ st)(tl:Tail ix (cj st) (n+1) r)(D:DI κ ix (cj st) (n+1) n)(h:∀b q t,pW a₀ t->b+(q+1)<=r->Tail ix (cj t) (b+(q+1)) r->DI κ ix (cj t) (b+(q+1)) b->Q (aw,b+(q+1),q) t):
  wpS (bK prog w) A E s (descLoop (n+1) r) Q st:=by
 refine oZ (I:=λx c t=>∃b q,x=b+(q+1)/\c=(aw,x,q)/\pW a₀ t/\Tail ix (cj t) x r/\DI κ ix (cj t) x b) ?F8 ?fin ⟨n,0,rfl,rfl,hB,tl,D⟩
 case fin=>
  rintro c t ⟨b,q,e,rfl,a,l,d⟩;rw[qx v]at e d l⊢;subst e;exact h b q t a (aF _) l d
 case F8=>
  rintro x c t F j ⟨b,q,rfl,rfl,a,l,d⟩;have u:=bN j C;have hsz:b+(q+1)<=(cj t).size:=by rw[a.size];exact nJ u
  have o:=cD (wW (b+(q+1)) 1) u;refine dX (IL O a y u o ?_)
  induction f:κ.blt (KK κ (cj t) (b+(q+1))) (KK κ (cj t) (b+(q+1) - 1)) with
  |true=>
   have p:∀i,i<b+(q+1)->κ.klt (KK κ (cj t) (b+(q+1))) (KK κ (cj t) i):=λi m=>Cb f (d.kle (fM m) (mL m))
   induction q with
   |zero=>exact f_ ⟨b+1,0,rfl,rfl,a,l.le (fa _),.start d.flat p⟩|succ q=>
    have z:∀k,KK κ (mirror (cj t) b (b+(q+1+1)) ((b+(q+1+1) - b)/ 2)) k=KK κ (cj t) k:=KK_mirror_equal hsz λk G H=>d.same k G H;show wpS _ _ _ _ (reverseSlice' (b+(q+1+1) - (q+1+1)) (b+(q+1+1))>>=λι=>pure (hY (aw,b+(q+1+1)+1,0))) _ _;rw[Rt];exact dX (DV (f_ ⟨b+(q+1+1),0,rfl,rfl,a.setArr (DU _ _ _ _),(l.mirror κ hsz (aF _)).le (fa _),.start (d.turn hsz) λi m=>(z _).symm▸(z i).symm▸p i m⟩))
  |false=>
   refine dX (IL O a y o u ?_)
   induction g:κ.blt (KK κ (cj t) (b+(q+1) - 1)) (KK κ (cj t) (b+(q+1))) with
   |true=>exact f_ (h b q t a (eW j) l d)|false=>exact f_ ⟨b,q+1,rfl,rfl,a,l.le (fa _),d.more (ta g f) λi m=>l i _ m (aF _) j⟩
theorem xi{st:ml}{n r:ae}{Q:ao ae->ml->Prop}(O:κ.OneLt)(f:KeysOf κ a₀)(c:r<=a₀.size)(g:n+1<=r)(hB:pW a₀ st)(tl:Tail ix (cj st) (n+1) r)(k:DI κ ix (cj st) (n+1) n)(h:∀m t,pW a₀ t->1<=m->m<=r->Tail ix (cj t) m r->Lex κ ix (cj t) m->Q (aa m) t):
  wpS (bK prog w) A E s (descPart n r) Q st:=by
 refine dX (wpS_lift (kX ⟨rfl,?_⟩));refine dX (TV O f c g hB tl k λb e t a i l d=>?_);have hsz:b+(e+1)<=(cj t).size:=by rw[a.size];exact bq i c
 have j:1<=b+(e+1):=bq (iL 1 e) (iL _ b)
 induction e with
 |zero=>exact Fe O f c j i a l d.flat h|succ e=>
  show wpS _ _ _ _ (reverseSlice' (b+(e+1+1) - (e+1+1)) (b+(e+1+1))>>=λι=>tail3 (b+(e+1+1)) r) _ _;rw[Rt];exact dX (DV (Fe (ix:=ix) O f c j i (a.setArr (DU _ _ _ _)) (l.mirror κ hsz (aF _)) (d.turn hsz) h))
theorem Ff{st:ml}{r:ae}{Q:ao ae->ml->Prop}(O:κ.OneLt)(x:KeysOf κ a₀)(f:r<=a₀.size)(D:1<=r)(hB:pW a₀ st)(tl:Tail ix (cj st) 1 r)(h:∀m t,pW a₀ t->1<=m->m<=r->Tail ix (cj t) m r->Lex κ ix (cj t) m->Q (aa m) t):
  wpS (bK prog w) A E s (countRun' 0 r) Q st:=by
 rw[countRun0_eq];refine dX (O2 (ix:=ix) O x f (aF 1) D hB tl (λi j e y=>er (bN e (ey y)) (e_ i)) λn a b c z=>?_);dsimp only
 by_cases d:n=r
 ·rw[bc (eF.mpr d)]
  exact f_ (h n st hB a b (tl.le a) c)
 ·rw[aU λq=>d (eF.mp q)]
  have p:κ.klt (KK κ (cj st) n) (KK κ (cj st) (n - 1)):=z.resolve_left d;have u:n+1<=r:=Rq b d;have hsz:n<=(cj st).size:=by rw[hB.size];exact bq b f
  have v:n - 1<n:=mL a
  by_cases g:n>1
  ·rw[bc g]
   refine dX (IL O hB x (bN D f) (bN v (bq b f)) ?_)
   induction o:κ.blt (KK κ (cj st) 0) (KK κ (cj st) (n - 1)) with
   |true=>exact f_ (h n st hB a b (tl.le a) c)|false=>
    have l:∀k,0<=k->k<n->KK κ (cj st) k=KK κ (cj st) (n - 1):=λk ι F=>ta (c.kle (fM F) v) (xx o (c.kle (bj k) F));have G:∀k,KK κ (mirror (cj st) 0 n ((n - 0)/ 2)) k=KK κ (cj st) k:=KK_mirror_equal hsz l;exact dX (DV (xi (ix:=ix) O x f u (hB.setArr (DU _ _ _ _)) ((tl.le (bq a (fa n))).mirror κ hsz (fa _))
     (.start (c.rev hsz) λi C=>(G n).symm▸(G i).symm▸(l i (bj i) C).symm▸p) h))
  ·rw[aU g]
   obtain rfl:n=1:=gZ (h4 g) a;exact xi (ix:=ix) O x f u hB (tl.le (fa 1)) (.start (λi j e y=>er (bN e (ey y)) (e_ i)) λi C=>ae.lt_one_iff.mp C▸p) h
structure Gap(κ:KeyKind)(xs:Array gW)(k l r:ae):Prop where
 le:l<=r
 rk:r<=k
 lo:∀i,i<l->κ.kle (KK κ xs i) (KK κ xs k)
 hi:∀i,r<=i->i<k->κ.klt (KK κ xs k) (KK κ xs i)
theorem JJ(h:l<r):l<=(l+r)/ 2/\(l+r)/ 2<r:=
 ⟨(ae.le_div_iff_mul_le Mw).mpr (by rw[ae.mul_two];exact nk (nJ h) l),ae.div_lt_of_lt_mul (by rw[ae.two_mul];exact ae.add_lt_add_right h r)⟩
theorem TX(h:l<r)(m:r - l<=k - x):(l+r)/ 2 - l<=k - (x+1)/\r - ((l+r)/ 2+1)<=k - (x+1):=
 have z:=JJ h
 ⟨fM (bN (ae.sub_lt_sub_right z.1 z.2) m),fM (bN (ae.sub_lt_sub_left h (ew z.1)) m)⟩
theorem Ln{st:ml}{n ok:ae}{Q:aE->ml->Prop}(O:κ.OneLt)(F:KeysOf κ a₀)(G:n<=a₀.size)(y:ok<=n)(o:1<=ok)(hB:pW a₀ st)(tl:Tail ix (cj st) ok n)(H:Lex κ ix (cj st) ok)(h:∀t,pW a₀ t->Lex κ ix (cj t) n->Q aq t):wpS (bK prog w) A E s (binarySort' 0 n ok) Q st:=by
 rw[binarySort'_eq];simp only[dY,ae.max_eq_left o];refine dX (VU (oZ (I:=λk c t=>c=(aw,())/\pW a₀ t/\Tail ix (cj t) k n/\Lex κ ix (cj t) k)
  (Q:=λc t=>c=(aw,())/\pW a₀ t/\Lex κ ix (cj t) n) ?F8 ?fin ⟨rfl,hB,tl,H⟩) ?post)
 case post=>
  rintro c t ⟨rfl,b,d⟩;exact f_ (h t b d)
 case fin=>
  rintro c t ⟨J,b,_,d⟩;exact⟨J,b,qx y▸d⟩
 case F8=>
  rintro k c t L j ⟨rfl,b,m,d⟩;have z:k<a₀.size:=bN j G;refine dX (VU (oZ (I:=λx c a=>a=t/\∃l r,c=(aw,l,r)/\r - l<=k - x/\Gap κ (cj t) k l r)
   (Q:=λc a=>a=t/\∃l r,c=(aw,l,r)/\Gap κ (cj t) k l l) ?aa2 ?adn ⟨rfl,0,k,rfl,aF _,bj k,aF k,λi M=>er M (e_ i),λi p C=>Bx (cD p C)⟩) ?aa3)
  case adn=>
   rintro c a ⟨rfl,l,r,rfl,v,g⟩;rw[qx (bj k),IK]at v;obtain rfl:=gZ g.le (Ke (ae.eq_zero_of_le_zero v));exact⟨rfl,l,l,rfl,g⟩
  case aa2=>
   rintro x c a _ N ⟨rfl,l,r,rfl,v,g⟩;dsimp only
   by_cases e:l>=r
   ·rw[bc e]
    obtain rfl:=gZ g.le e;exact f_ ⟨rfl,l,l,rfl,g⟩
   ·rw[aU e]
    replace e:=VT e
    have q:=JJ e;have D:=TX e v;refine dX (IL O b F z (bN q.2 (bq g.rk (nJ z))) ?_)
    induction f:κ.blt (KK κ (cj a) k) (KK κ (cj a) ((l+r)/ 2)) with
    |true=>exact f_ ⟨rfl,l,(l+r)/ 2,rfl,D.1,q.1,bq (nJ q.2) g.rk,g.lo,λi p C=>Cb f (d.kle p C)⟩|false=>exact f_ ⟨rfl,(l+r)/ 2+1,r,rfl,D.2,q.2,g.rk,λi p=>xx (d.kle (ey p) (bN q.2 g.rk)) f,g.hi⟩
  case aa3=>
   rintro c a ⟨rfl,l,r,rfl,g⟩;show wpS _ _ _ _ (do moveDown' k l;pure (hY (aw,()))) _ _
   rw[moveDown'_eq];have u:k<(cj a).size:=by rw[b.size];exact z
   exact dX (wpS_modify (f_ ⟨rfl,b.setArr (bubble_perm _ _ _),m.bubble κ u g.rk,d.bubble u g.rk m j g.lo g.hi⟩))
def pI(p:bS)(a:bU)(b:aW)(d:ag->ah->Prop)(e:ah)(g:Array gW):Prop:=∀{κ:KeyKind}{ix:gW->ae}{st:ml}{Q:jb->ml->Prop}(O:κ.OneLt)(f:KeysOf κ g)(hB:pW g st)(i:2<=g.size)(c:g.size<64)(tl:Tail ix (cj st) 0 g.size)(h:∀t,(cj t).Perm g->so t=aw->Lex κ ix (cj t) g.size->Q () t),wpS (bK p a) b d e sortRuns' Q st
def uU:=λx:(_×_×_)×_×_×_=>pI x.1.1 x.1.2.1 x.1.2.2 x.2.1 x.2.2.1 x.2.2.2
def iW:=haveI:=iG;haveI:=eI;haveI:=lx;qy bB uU
namespace uV
def p:=iW.1.1
def a:=iW.1.2.1
def b:=iW.1.2.2
def d:=iW.2.1
def e:=iW.2.2.1
def g:=iW.2.2.2
theorem ok:pI p a b d e g:=by
 intro κ ix st Q O C hB G o tl h;have done:∀{st:ml},pW g st->Lex κ ix (cj st) g.size->(cj (IM st ((lu st).push (0,g.size,0)))).Perm g/\so (IM st ((lu st).push (0,g.size,0)))=aw/\
   lu (IM st ((lu st).push (0,g.size,0)))= #[(0,g.size,0)]/\Lex κ ix (cj (IM st ((lu st).push (0,g.size,0)))) g.size:=λ{st}hB H=>
  ⟨hB.perm,hB.failed,by show(lu st).push _=_;rw[hB.pend];rfl,H⟩
 refine sortRuns'_eq▸?_;refine dX (wpS_get ?_);dsimp only;have r:minRun' g.size g.size 0=g.size:=by
  obtain⟨f,hf⟩:∃f,g.size=f+1:=⟨g.size - 1,(iF (eW ‹2<=g.size›)).symm⟩;have:minRun' (f+1) g.size 0=g.size:=by rw[minRun'_succ,bc o];rfl
  rwa[<-hf]at this
 simp only[hB.size,r];refine dX (VU (oZ
  (I:=λx c t=>(x=0/\c=(aw,0)/\t=st)\/(1<=x/\c=(aw,g.size)/\(cj t).Perm g/\so t=aw/\lu t= #[(0,g.size,0)]/\Lex κ ix (cj t) g.size))
  (Q:=λc t=>c=(aw,g.size)/\(cj t).Perm g/\so t=aw/\lu t= #[(0,g.size,0)]/\Lex κ ix (cj t) g.size) ?F8 ?fin (.inl ⟨rfl,rfl,rfl⟩)) ?post)
 case fin=>
  rintro c t (⟨F,_,_⟩|⟨_,J,D⟩)
  ·lia
  ·exact⟨J,D⟩
 case F8=>
  rintro x c t _ F (⟨rfl,rfl,rfl⟩|⟨L,rfl,D⟩)
  ·refine(aU (VV F))▸?_
   simp only[IE,ae.min_self,dY];refine dX (Ff (ix:=ix) O C (aF _) (VS G) hB (tl.le (bj _)) λm q j u v O3 k=>?_);dsimp only
   by_cases l:m<g.size
   ·rw[bc l]
    refine dX (wpS_lift (kX ⟨rfl,?_⟩));refine dX (Ln (ix:=ix) O C (aF _) v u j O3 k λy n z=>?_);refine dX (wpS_get ?_);have hb:(lu y).back? =aw:=by rw[n.pend];rfl
    rw[hb];dsimp only;exact dX (wpS_modify (f_ (.inr ⟨by lia,rfl,done n z⟩)))
   ·rw[aU l]
    have M:m=g.size:=by lia
    clear r;subst M;refine dX (wpS_get ?_);have hb:(lu q).back? =aw:=by rw[j.pend];rfl
    rw[hb];dsimp only;exact dX (wpS_modify (f_ (.inr ⟨by lia,rfl,done j k⟩)))
  ·rw[bc (aF _)]
   exact f_ ⟨rfl,D⟩
 case post=>
  rintro c t ⟨rfl,D⟩;refine dX (VU (oZ (I:=λι c i=>i=t/\c=(aw,())) (Q:=λc i=>i=t/\c=(aw,())) ?_ (λι ι N=>N) ⟨rfl,rfl⟩) ?_)
  ·rintro x c i _ _ ⟨rfl,rfl⟩
   refine dX (wpS_get ?_);rw[bc (by rw[D.2.2.1];exact aF 1)]
   exact f_ ⟨rfl,rfl⟩
  ·rintro c i ⟨rfl,rfl⟩
   exact f_ (h _ D.1 D.2.1 D.2.2.2)
end uV
theorem Fg:pI prog w A E s a₀:=@d5 _ _ uU @uV.ok ((prog,w,A),E,s,a₀)
end
theorem oK:∀{vs:ab ag},(∀v∈vs,∃b t,v=.bytes b t)->vs.mapM firstOfTuple' =pure (vs.map λι=>aw)
 |[],c=>by simp|v::vs,h=>by
  obtain⟨b,t,rfl⟩:=h v ax;simp only[Xf,show firstOfTuple' (.bytes b t)=pure aw from rfl,oK λv a=>h v (aK _ a)];simp
theorem p8:∀{vs:ab ag},(∀v∈vs,∃b t,v=.bytes b t)->vs.mapM IA=pure (vs.map λι=>jS "bytes")
 |[],c=>by simp|v::vs,h=>by
  obtain⟨b,t,rfl⟩:=h v ax;rw[Xf,p8 λv a=>h v (aK _ a)];show(pure (jS "bytes")>>=λb=>pure _>>=λs=>pure (b::s))=_;simp
theorem AA(h:∀v∈a::c::vs,∃b t,v=.bytes b t):keyKind' (a::c::vs).toArray=pure VW:=by
 simp only[keyKind'_eq,Ru,oK h];simp only[map_pure,DN];rw[aU (by simp),aU (by simp)]
 simp only[oneTypeOnly'_eq,Ru,p8 h];simp only[map_pure,DN];have l:((Xg (λι=>jS "bytes") (a::c::vs)).toArray.all λx=>x==jS "bytes")=aq:=by
  simp only[ab.all_toArray,ab.all_map,qg];intro _ _;rfl
 refine((by simp:(Xg (λι=>jS "bytes") (a::c::vs)).toArray[0]? =aa (jS "bytes")))▸?_
 simp only[l,AW,DN,ao.isSome_some]
theorem AB(a f:aB)(b:aE):Builtin.«list.sort» ⟨[.ref a],[(aL "key",.ref f),(aL "reverse",.bool b)]⟩=(do
  let items<-n4 (.ref a)
  fo (.ref a) λι=> #[]
  let o<-seqEpoch a
  let h<-newTuple items.toList
  let y<-newList []
  dJ [h,y] do
   VE "list.sort.key"
   for x in items do
    match<-(call (.ref f) [x]).attempt with
    |.ok k=>fo y (·.push k)|.error e=>
     VE "list.sort.key-raised"
     let m<-n4 y
     fo y λι=> #[]
     letGo m.toList.reverse [e]
     fo (.ref a) λι=>items;throw e
   let keys<-n4 y
   if b then VE "list.sort.reverse"
   let i<-if items.size<2 then pure general' else keyKind' keys
   let ((),s)<-(if items.size<2 then pure () else sortRuns').run (Kg i (if b then(keys.zip items).reverse else keys.zip items) #[] 7 aw)
   let sorted:=(cj s).map (·.2)
   fo y λι=> #[]
   letGo ((cj s).map (·.1)).toList (so s).toList
   let t:=(<-seqEpoch a) !=o
   fo (.ref a) λι=>if b then sorted.reverse else sorted
   if let aa e:=so s then VE "list.sort.comparison-raised";throw e
   if t then VE "list.sort.modified";raiseError "ValueError" "list modified during sort"
   ret .none):=by
 first|rfl|(fail "not by rfl")
section
variable{M:dZ}{A:aW}{E:ag->ah->Prop}
theorem By{f:ag->PUnit->Sem (ForInStep PUnit)}{J:ae->ah->Prop}{Q:PUnit->ah->Prop}:∀(vs:ab ag)(i:ae)(s:ah),J i s->
  (∀j x b,vs[j]? =aa x->J (i+j) b->bk M A (f x ⟨⟩) (λr a=>r=.yield ⟨⟩/\J (i+j+1) a) E b)->(∀b,J (i+vs.length) b->Q ⟨⟩ b)->bk M A (AY vs ⟨⟩ f) Q E s
 |[],i,s,h,g,q=>by
  refine uo ab.forIn_nil ?_;exact aO (q s h)
 |x::vs,i,s,h,st,q=>by
  rw[jU];refine aj (aI (st 0 x s rfl h) (λr b c=>?_) λι ι z=>z);obtain⟨rfl,d⟩:=c;refine By vs (i+1) b d (λj y a e z=>?_) λa z=>q a ?_
  ·have:=st (j+1) y a e (by exact(show i+(j+1)=i+1+j by lia)▸z)
   exact(show i+1+j+1=i+(j+1)+1 by lia)▸this
  ·simp only[cY,show i+(vs.length+1)=i+1+vs.length by lia];exact z
end
section
variable{prog:bS}{w:bU}{A:aW}{E:ag->ah->Prop}{s:ah}{ix:gW->ae}
theorem Yt{a₀:Array gW}{k:SortKind}{Q:jb×ml->ah->Prop}(c:KeysOf g9 a₀)(d:2<=a₀.size->k=VW)(a:a₀.size<64)(tl:Tail ix a₀ 0 a₀.size)(h:∀t,(cj t).Perm a₀->so t=aw->Lex g9 ix (cj t) a₀.size->Q ((),t) s){m:ae}(f:m=a₀.size):
  bk (bK prog w) A ((if m<2 then pure () else sortRuns').run (Kg k a₀ #[] 7 aw)) Q E s:=by
 subst f
 by_cases b:a₀.size<2
 ·rw[bc b,StateT.run_pure]
  exact aO (h _ (IP _) rfl λi j g u=>by lia)
 ·rw[aU b,d (by lia)]
  exact aT (z_ (Fg (κ:=g9) (ix:=ix) Ay (a₀:=a₀) (st:=Kg VW a₀ #[] 7 aw) (Q:=λι t=>(cj t).Perm a₀/\so t=aw/\Lex g9 ix (cj t) a₀.size)
   c ⟨IP _,rfl,rfl,rfl⟩ (by lia) a tl λt l n o=>⟨l,n,o⟩) (λr v p=>by
    obtain⟨⟨⟩,t⟩:=r;obtain⟨rfl,hp,hf,q⟩:=p;exact h t hp hf q) λι ι e=>e)
noncomputable def iu(b:aE)(ks vs:ab ag):Array gW:=if b then(ks.toArray.zip vs.toArray).reverse else ks.toArray.zip vs.toArray
def qY(o:bS)(d:bU)(g:aW)(k:ah)(l:gW->ae)(a:aB)(f:aB)(m:ab ag)(u:ab cK)(P:Fin->ah->Prop)(J:ab ag->ah->Prop):Prop:=∀{E:ag->ah->Prop}{n:ae}{b:aE}(p:k.heap.get? a=aa (fj "list" m.toArray n))(j:m.length<64)(q:u.length=m.length)(tl:∀ks,ks.map lN=u.map aa->Tail l (iu b ks m) 0 m.length)(start:∀e1,((k.heap.update a (cp λι=> #[])).push (fj "tuple" m.toArray 0)).get? a=aa (fj "list" #[] e1)->J [] {k with heap:=((k.heap.update a (cp λι=> #[])).push (fj "tuple" m.toArray 0)).push (fj "list" #[] 0)})(keep:∀ks c,J ks c->c.heap.get? a=(k.heap.update a (cp λι=> #[])).get? a/\∃e,c.heap.get? (k.heap.objs.size+1)=aa (fj "list" ks.toArray e))(F8:∀(i:ae)(x:ag)(y:cK)(ks:ab ag)(c:ah),m[i]? =aa x->u[i]? =aa y->J ks c->bk (bK o d) g (call (.ref f) [x]) (λv h=>lN v=aa y/\(∃e,h.heap.get? (k.heap.objs.size+1)=aa (fj "list" ks.toArray e))/\J (ks++[v]) {h with heap:=h.heap.update (k.heap.objs.size+1) (cp (·.push v))}) (λι ι=>jD) c)(fin:∀ks t c,ks.map lN=u.map aa->(cj t).Perm (iu b ks m)->Lex g9 l (cj t) m.length->J ks c->
   P (.done (.ret .none)) {c with heap:=(c.heap.update (k.heap.objs.size+1) (cp λι=> #[])).update a (cp λι=>if b then((cj t).map (·.2)).reverse else(cj t).map (·.2))}),bk (bK o d) g (Builtin.«list.sort» ⟨[.ref a],[(aL "key",.ref f),(aL "reverse",.bool b)]⟩) P E k
def xj:=λx:((_×_)×_×_×_)×(_×_×_)×_×_×_=>qY x.1.1.1 x.1.1.2 x.1.2.1 x.1.2.2.1 x.1.2.2.2 x.2.1.1 x.2.1.2.1 x.2.1.2.2 x.2.2.1 x.2.2.2.1 x.2.2.2.2
def fw:=haveI:=iG;haveI:=eI;haveI:=lx;qy bB xj
namespace xk
def o:=fw.1.1.1
def d:=fw.1.1.2
def g:=fw.1.2.1
def k:=fw.1.2.2.1
def l:=fw.1.2.2.2
def a:=fw.2.1.1
def f:=fw.2.1.2.1
def m:=fw.2.1.2.2
def u:=fw.2.2.1
def P:=fw.2.2.2.1
def J:=fw.2.2.2.2
theorem ok:qY o d g k l a f m u P J:=by
 intro E n b Y h64 N tl start keep F8 fin;rw[AB];have ha:a<k.heap.objs.size:=eG Y;refine aj (aT (Ri Y rfl ?_));refine aj (aT (rg Y rfl ?_ (by rw[bD,a7];lia) (bj _)))
 obtain⟨e1,O⟩:∃e1,(k.heap.update a (cp λι=> #[])).get? a=aa (fj "list" #[] e1):=⟨_,t8 Y (λι=> #[])⟩;refine aj (aT (seqEpoch_at O rfl ?_));refine aj (aT (wpAny_newTuple ?_ (by rw[bD];simp;lia)))
 refine aj (aT (Mq ?_));refine aP ?_;refine aj (lD ?_);have hsz:m.toArray.size=m.length:=a7;rw[(by rw[pV,jf]:((k.heap.update a (cp λι=> #[])).push (fj "tuple" m.toArray 0)).objs.size=k.heap.objs.size+1),ab.forIn_toArray]
 have st0:=start e1 (by rw[Rh _ _ _ (by rw[jf];exact df ha)];exact O)
 refine aj (By (J:=λi G=>∃ks,ks.map lN=(u.take i).map aa/\J ks G) m 0 _ ⟨[],rfl,st0⟩ (λj x G hx H=>?_) λG H=>?_)
 ·rw[dY]at H⊢
  refine ck λI=>?_;obtain⟨ks,D,H⟩:=H;refine I ?_;have hj:j<u.length:=by rw[N];exact(aV.mp hx).1
  obtain⟨y,hy⟩:∃y,u[j]? =aa y:=⟨_,az hj⟩;have Q:ks.length=j:=by
   have:=aY km D;simp at this;lia
  have hjv:j<64:=by lia
  refine aj (nO (aI (F8 j x y ks G hx hy H) (λv s'' R=>?_) λι ι z=>z.elim));refine ck λI=>?_;obtain⟨R,⟨e,Z⟩,hJ'⟩:=R;refine I ?_;refine aj (aT (rg Z rfl ?_ (by rw[bD,a7];lia) (by rw[bD,Array.size_push,a7];lia)))
  refine aO ⟨rfl,ks++[v],?_,hJ'⟩;rw[rj,D,ab.take_succ,hy,rj];simp[R]
 ·rw[dY]at H
  obtain⟨ks,D,H⟩:=H;rw[gf (iz N)]at D;have Q:ks.length=m.length:=by
   have:=aY km D;rw[b9,b9]at this;exact this.trans N
  obtain⟨ka,e2,Z⟩:=keep _ _ H;rw[O]at ka;refine aj (aT (Ri Z rfl ?_));have T:∀{K:Sem Fin},bk (bK o d) g K P E G->bk (bK o d) g (if b=aq then(do VE "list.sort.reverse";K) else K) P E G:=λ{K}h=>by
   induction b with
   |true=>exact aj (lD h)|false=>exact h
  refine T ?_;have F:(iu b ks m).size=m.length:=by
   unfold iu;clear T
   cases b<;>simp[Q]
  have U:∀v∈ks,∃x b t,v=.bytes b t/\b.toList=[x]:=λv R=>by
   have hm:lN v∈ks.map lN:=cE R;rw[D]at hm;refine ck λI=>?_;obtain⟨x,_,e⟩:=bF.mp hm;obtain⟨b,t,h⟩:=ze e.symm;refine I ?_;exact⟨x,b,t,h⟩
  have S:∀v∈ks,∃b t,v=.bytes b t:=λv R=>by
   refine ck λI=>?_;obtain⟨x,b,t,e,_⟩:=U v R;refine I ?_;exact⟨_,t,e⟩
  have itk:∀{K:SortKind->Sem Fin},(∀C,(2<=(iu b ks m).size->C=VW)->bk (bK o d) g (K C) P E G)->bk (bK o d) g (if m.toArray.size<2 then(do let C<-pure general';K C) else(do let C<-keyKind' ks.toArray;K C)) P E G:=λ{K}h=>by
   by_cases h2:m.toArray.size<2
   ·rw[bc h2]
    exact aj (aO (h _ λq=>by rw[hsz]at h2;lia))
   ·rw[aU h2]
    rw[hsz]at h2
    match ks,Q,S with
    |[],N,s=>simp at N;lia|[s],N,w=>simp at N;lia|k1::k2::r,_,S=>
     rw[AA S];exact aj (aO (h _ λι=>rfl))
  refine itk λC hk1=>?_;have h0:KeysOf g9 (iu b ks m):=λp hp=>by
   have hm:p∈ks.zip m:=by
    unfold iu at hp
    induction b with
    |true=>simpa using hp|false=>simpa using hp
   refine ck λI=>?_;obtain⟨x,c,t,e,e'⟩:=U p.1 (ab.of_mem_zip (show(p.1,p.2)∈ks.zip m from hm)).1
   refine I ?_;exact⟨x.toNat,by rw[e];show(aeq c.toList).map xt=_;rw[e'];rfl⟩
  refine aj (Yt (ix:=l) h0 hk1 (by rw[F];exact h64) (by rw[F];exact tl ks D) (λL hp hf hs=>?_) (by rw[F,hsz]))
  rw[F]at hs;have W:(cj L).size=m.length:=hp.size_eq.trans F;refine aj (aT (rg Z rfl ?_ (by rw[bD,a7];lia) (bj _)))
  refine aj (aT (wZ ?_));have X:(G.heap.update (k.heap.objs.size+1) (cp λι=> #[])).get? a=aa (fj "list" #[] e1):=(eU _ _ (nL (k_ ha))).trans ka;refine aj (aT (seqEpoch_at X rfl ?_));have hz:∀c:aE,(if c=aq then((cj L).map (·.2)).reverse else(cj L).map (·.2)).size=m.length:=λc=>by
   cases c
   ·exact(VX ..).trans W
   ·exact Array.size_reverse.trans ((VX ..).trans W)
  refine aj (aT (rg X rfl ?_ (bj _) (by rw[bD,hz];lia)))
  rw[hf];simp only[bne_self_eq_false,ft,pP];exact aO (fin ks L G D hp hs H)
end xk
theorem Hy:qY prog w A s ix a f vs b P J:=@d5 _ _ xj @xk.ok (((prog,w),A,s,ix),(a,f,vs),b,P,J)
end
section
variable{prog:bS}{w:bU}{A:aW}{E:ag->ah->Prop}{s:ah}{ix:gW->ae}
theorem JK{id:cZ}{b:Builtin}{args:ab ag}{k:ab (Str×ag)}{Q:ag->ah->Prop}(ok:RM (.builtin id ⟨args,k⟩)=aq)(hp:plainId id=aq)(hb:nE yf id=aa b)(h:∀{E:ag->ah->Prop}{R:jb->ah->Prop},R () s->bO (bK prog w) A.in1 (checkBuiltinCall id ⟨args,k⟩) R E s)(c:bk (bK prog w) A.in1 (b ⟨args,k⟩) (λfin a=>∃v,fin=.done (.ret v)/\Q v a) E s):bk (bK prog w) A (call (.builtin id) args k) Q E s:=by
 refine ib (gn ok (rf hp _) hb (aT (h ?_)));rw[Gq hp _];refine aI c (λfin a h' =>?_) λι ι h' =>h';obtain⟨v,rfl,d⟩:=h';exact d
theorem Hz(a f:ag)(b:ag):kl "list.sort" ⟨[a],[(aL "key",f),(aL "reverse",b)]⟩:=by unfold kl;kernel_rfl
theorem C8(a f:ag)(b:ag):kl "sorted" ⟨[a],[(aL "key",f),(aL "reverse",b)]⟩:=by unfold kl;kernel_rfl
noncomputable def hC(h:bJ)(vs:ab ag):bJ:=((h.push (fj "list" #[] 0)).update h.objs.size (cp (· ++vs.toArray))).push (fj "list" vs.toArray 0)
theorem uW(h:bJ)(vs:ab ag):(hC h vs).objs.size=h.objs.size+2:=by
 unfold hC;rw[pV,jf,pV]
theorem aa4(h:bJ)(vs:ab ag):(hC h vs).get? (h.objs.size+1)=aa (fj "list" vs.toArray 0):=by
 have hsz:((h.push (fj "list" #[] 0)).update h.objs.size (cp (· ++vs.toArray))).objs.size=h.objs.size+1:=by rw[jf,pV]
 unfold hC;rw[<-hsz];exact bA _ rfl
theorem Yu(hb:h.get? b=aa o):(hC h vs).get? b=aa o:=by
 unfold hC;refine bf _ ?_;rw[eU _ _ (nL (eG hb))];exact bf _ hb
end
section
variable{G:Gm}{k k' :Kf}{σ:St}{ix:gW->ae}
theorem aa5(n:ae):n+1≠n+3:=(Z.off_ne n 1 3 rfl)
theorem zf(S:SR G k' σ)(l:Le k k'){K:aB}{xs:Array ag}{n:ae}(j:k.h.get? K=aw)(c:k'.h.get? K=aa (fj "list" xs n))(nK: ¬adr k'.ρ K)(z:G.X.h0.get? K=aw)(f:Array ag->Array ag):
  SR G ⟨k'.ρ,k'.h.update K (cp f),k'.tk⟩ σ/\Le k ⟨k'.ρ,k'.h.update K (cp f),k'.tk⟩/\(∃e,(k'.h.update K (cp f)).get? K=aa (fj "list" (f xs) e))/\∀b,b≠K->(k'.h.update K (cp f)).get? b=k'.h.get? b:=by
 have t:∀b,b≠K->(k'.h.update K (cp f)).get? b=k'.h.get? b:=λb d=>eU _ _ (Ne.symm d);have at_:∃e,(k'.h.update K (cp f)).get? K=aa (fj "list" (f xs) e):=⟨_,t8 c f⟩;have live:∀b o,k'.h.get? b=aa o->∃o',(k'.h.update K (cp f)).get? b=aa o' :=λb o e=>by
  by_cases q:b=K
  ·obtain⟨_,g⟩:=at_;subst q;exact⟨_,g⟩
  ·exact⟨o,(t b q).trans e⟩
 have m:∀b o,b∉[K]->k'.h.get? b=aa o->(k'.h.update K (cp f)).get? b=aa o:=λb o d e=>(t b λq=>d (q▸fQ _)).trans e;refine⟨h5.frame S (xs:=[K]) (λa i=>by rw[aJ]at i;subst i;exact⟨nK,z,λus⟨o,p,r,_⟩=>by cases c.symm.trans p;simp at r,eO c λι q=>nomatch q⟩) live m,?_,at_,t⟩
 exact⟨l.pre,λb o e n x=>by
  have ne:b≠K:=λq=>b6 ((q▸j).symm.trans e);exact(t b ne).trans (l.mq b o e n x),λb o e=>let ⟨o',g⟩:=l.live b o e;live b o' g⟩
def qZ(a:Gm)(c:Kf)(d:St)(l:aB)(f:aB)(g:ab ag)(b:aE)(A:aW)(Q:ag->ah->Prop):Prop:=∀{ix:gW->ae}(S:SR a c d){n:ab cK}{m:ae}(p:c.h.IsList l g.toArray)(r:g.length<64)(t:n.length=g.length)(tl:∀ks,ks.map lN=n.map aa->Tail ix (iu b ks g) 0 g.length)(o:∀(i:ae)(x:ag)(y:cK)(k' :Kf),Le c k'->SR a k' d->g[i]? =aa x->n[i]? =aa y->∀A Q E,el A m->(∀v j,lN v=aa y->Le k' j->SR a j d->Q v (sh a.b j))->bk (Md a.w) A (call (.ref f) [x]) Q E (sh a.b k')){E:ag->ah->Prop}(R:el A.in1.in1 m)(q:∀k' ks s B e,ks.map lN=n.map aa->Le c k'->SR a k' d->c.h.get? B=aw->¬adr k'.ρ B->a.X.h0.get? B=aw->(cj s).Perm (iu b ks g)->Lex g9 ix (cj s) g.length->
   k'.h.get? B=aa (fj "list" (if b then((cj s).map (·.2)).reverse else(cj s).map (·.2)) e)->Q (.ref B) (sh a.b k')),bk (Md a.w) A (call (.builtin "sorted") [.ref l] [(aL "key",.ref f),(aL "reverse",.bool b)]) Q E (sh a.b c)
def xl:=λx:((_×_)×_×_)×(_×_)×_×_×_=>qZ x.1.1.1 x.1.1.2 x.1.2.1 x.1.2.2 x.2.1.1 x.2.1.2 x.2.2.1 x.2.2.2.1 x.2.2.2.2
def gM:=haveI:=Am;haveI:=Cv;haveI:=Gw;haveI:=eI;qy bB xl
namespace xm
def a:=gM.1.1.1
def c:=gM.1.1.2
def d:=gM.1.2.1
def l:=gM.1.2.2
def f:=gM.2.1.1
def g:=gM.2.1.2
def b:=gM.2.2.1
def A:=gM.2.2.2.1
def Q:=gM.2.2.2.2
theorem ok:qZ a c d l f g b A Q:=by
 intro ix S bs m H I hl tl p E RA q;have cP:∀j,c.h.get? (c.h.objs.size+j)=aw:=λj=>cO (bp _ _);have r:=λj=>S.cP (cP j);refine JK (by show(!pg.contains "sorted")=aq;decide+kernel) plain_sorted entry_sorted (λ{E R}h=>?_) ?_
 ·have:=C8 (.ref l) (.ref f) (.bool b)
  simp only[checkBuiltinCall,kind_sorted]
  induction v:Gb "sorted" with
  |none=>exact aH h|some L=>
   have M:Ce "sorted" L ⟨[.ref l],[(aL "key",.ref f),(aL "reverse",.bool b)]⟩=pure ():=by simpa only[kl,v] using this
   simp only[M];exact aH h
 unfold Builtin.«sorted»;refine aj (m:=checkCount "sorted" 1 1 _) (aO ?_);refine aj (aT (collect_list H ?_ (by rw[bD];lia)))
 refine aj (aT (Mq ?_ (by rw[bD];lia)))
 have hsz:((c.h.push (fj "list" #[] 0)).update c.h.objs.size (cp (· ++g.toArray))).objs.size=c.h.objs.size+1:=by rw[jf,pV]
 show bk _ _ _ _ _ {sh a.b c with heap:=hC c.h g}
 dsimp only;rw[hsz];have hB:=aa4 c.h g;obtain⟨e1,w⟩:∃e1,((hC c.h g).update (c.h.objs.size+1) (cp λι=> #[])).get? (c.h.objs.size+1)=aa (fj "list" #[] e1):=⟨_,t8 hB (λι=> #[])⟩;refine aj (aP (JK (by show(!pg.contains "list.sort")=aq;decide+kernel) IG.plain entry_list_sort (λ{E R}h=>IG.check _ _ _ _ _ _ _ _ ⟨_,hB,rfl⟩ (Hz _ _ _) h) ?_))
 refine Hy (s:={sh a.b c with heap:=hC c.h g}) (ix:=ix) (J:=λks D=>∃k' :Kf,D=sh a.b k'/\Le c k'/\SR a k' d/\(¬adr k'.ρ (c.h.objs.size+1)/\¬adr k'.ρ (c.h.objs.size+3))/\k'.h.get? (c.h.objs.size+1)=aa (fj "list" #[] e1)/\∃e,k'.h.get? (c.h.objs.size+3)=aa (fj "list" ks.toArray e)) hB I hl tl ?_ ?_ ?_ ?_
 ·intro e2 hB2
  have n:∀{x:aB}{o:Obj},c.h.get? x=aa o->((((hC c.h g).update (c.h.objs.size+1) (cp λι=> #[])).push (fj "tuple" g.toArray 0)).push (fj "list" #[] 0)).get? x=aa o:=λ{x o}e=>by
   refine bf _ (bf _ ?_);have:x<c.h.objs.size:=eG e;rw[eU _ _ (nL (k_ this))];exact Yu e
  have z:(((hC c.h g).update (c.h.objs.size+1) (cp λι=> #[])).push (fj "tuple" g.toArray 0)).objs.size=c.h.objs.size+3:=by rw[pV,jf,uW]
  refine⟨⟨c.ρ,((((hC c.h g).update (c.h.objs.size+1) (cp λι=> #[])).push (fj "tuple" g.toArray 0)).push (fj "list" #[] 0)),c.tk⟩,rfl,bY.old λb o e=>n e,h5.keeps S λb o e=>n e,⟨(r 1).1,(r 3).1⟩,?_,0,?_⟩
  ·refine bf _ (bf _ ?_)
   exact w
  ·rw[<-z];exact bA _ rfl
 ·rintro ks D ⟨k',rfl,_,_,_,g1,e,g2⟩
  refine⟨g1.trans w.symm,e,?_⟩;show k'.h.get? ((hC c.h g).objs.size+1)=_;rw[uW];exact g2
 ·rintro i x y ks D hx hk ⟨k',rfl,l1,N,⟨C,F⟩,g1,e,g2⟩
  refine p i x y k' l1 N hx hk A.in1.in1 _ _ RA λO u P l2 T=>?_;have b1:=l2.keep _ _ g1 C gL;have Z:=l2.keep _ _ g2 F gL;have m1:=l2.off g1 C;have m2:=l2.off g2 F;refine⟨P,⟨e,by show u.h.get? ((hC c.h g).objs.size+1)=_;rw[uW];exact Z⟩,?_⟩
  obtain⟨U,l3,⟨e3,W⟩,X⟩:=zf T (l1.trans l2) (K:=c.h.objs.size+3) (cP 3) Z m2 (r 3).2 (·.push O);refine⟨⟨u.ρ,u.h.update (c.h.objs.size+3) (cp (·.push O)),u.tk⟩,?_,l3,U,⟨m1,m2⟩,(X _ (aa5 _)).trans b1,e3,?_⟩
  ·show({sh a.b u with heap:=u.h.update ((hC c.h g).objs.size+1) (cp (·.push O))}:ah)=_
   rw[uW]
  ·refine W.trans ?_
   simp
 ·rintro ks t D Y hp hs ⟨k',rfl,l1,N,⟨C,F⟩,g1,e,g2⟩
  obtain⟨T,l2,_,X⟩:=zf N l1 (K:=c.h.objs.size+3) (cP 3) g2 F (r 3).2 (λι=> #[]);have g3:=(X (c.h.objs.size+1) (aa5 _)).trans g1;obtain⟨U,l3,⟨e3,W⟩,_⟩:=zf (k' :=⟨k'.ρ,k'.h.update (c.h.objs.size+3) (cp λι=> #[]),k'.tk⟩) T l2 (K:=c.h.objs.size+1) (cP 1) g3 C (r 1).2 (λι=>if b then((cj t).map (·.2)).reverse else(cj t).map (·.2))
  refine⟨_,rfl,aO ⟨_,rfl,?_⟩⟩;have:=q _ ks t _ _ Y l3 U (cP 1) C (r 1).2 hp hs W;show Q (.ref (c.h.objs.size+1)) {sh a.b k' with heap:=(k'.h.update ((hC c.h g).objs.size+1) (cp λι=> #[])).update (c.h.objs.size+1) (cp λι=>if b then((cj t).map (·.2)).reverse else(cj t).map (·.2))}
  rw[uW];exact this
end xm
theorem HA:qZ G k σ l f vs b A Q:=@d5 _ _ xl @xm.ok (((G,k),σ,l),(f,vs),b,A,Q)
end
noncomputable def P0:bZ:={strHash:=λι=>0,shareClass:=λa=>a,mergeTok:=id,idOf:=λι=>0,idOfShared:=λι ι=>0,followText:=λι=>ai,idOfImm:=λι=>0}
def oC(a:ae):Obj:=sd P0 a
def atC(P:bZ)(l:ab ae):ab (ao Obj×aE×ao Obj):=l.map λa=>((hT P).get a,okB a,alive (oC a))
theorem Lo(h:atC P l=l.map λa=>(aa (oC a),aq,aa (oC a)))(b:a∈l):(hB P).get? a=aa (oC a):=by
 obtain⟨e1,e⟩:=av (hS h b);obtain⟨e2,e3⟩:=av e;exact Wq e1 e2 e3
def RN(P:bZ)(a:ae)(x:Str):ao ag:=MB (p5 (tb (sd P a))) (enc x)
def MC(P:bZ)(i:ae):ag:=(CY (sd P A5)).getD i .none
theorem aa6(P:bZ):(hT P).get A5=aa (sd P A5)/\(hT P).get t5=aa {cls:=.none,data:=.fields #[]}/\(sd P A5).cls=.type "code"/\(sd P A5).data=.fields (CY (sd P A5))/\MC P 11=.ref t5/\MC P 18=.str (adb (MC P 18)) (E4 (MC P 18))/\
  MC P 7=.int (aaT (MC P 7)) (E4 (MC P 7))/\MC P 9=.bool (ade (MC P 9))/\MC P 10=.int (aaT (MC P 10)) (E4 (MC P 10))/\(CY (sd P A5))[11]? =aa (.ref t5):=⟨⋯,⋯,⋯,⋯,⋯,⋯,⋯,⋯,⋯,⋯⟩
theorem zg(P:bZ):vF (H.Internal.iZ P)/\(H.Internal.iZ P).TableAt A5 t5 #[]:=by
 have g3:alive (sd P A5)=aa (sd P A5):=⋯;obtain⟨g1,g2,c,d,r,a,b,e,f,r6⟩:=aa6 P;have g1:=OP g1 (by decide) g3
 have g2:=OP g2 (by decide) rfl
 have t:(H.Internal.iZ P).TableAt A5 t5 #[]:=⟨⟨_,_,g1,c,d,r6⟩,g2⟩;exact⟨⟨#[],⟨_,_,_,_,_,_,_,_,_,_,g1,d,r,a,b,e,f,g2,rfl,trivial,by decide⟩,t,.inl rfl⟩,t⟩
section
section
variable{M:dZ}{A:aW}{E:ag->ah->Prop}{s:ah}
def zh(f:dZ)(g:aW)(h:ah)(n:Env)(i:ae)(m:Str)(p:xr)(j:jB)(y:FuncBody):Prop:=∀{E:ag->ah->Prop}{Q:ag->ah->Prop}(a:n.code=.ref A5)(pl:vF h.heap)(d:∀c h' tk,(∀b o,b≠t5->h.heap.get? b=aa o->h'.get? b=aa o)->vF h'->h'.CodeRec (.ref c) yp->Cc h' c->Q (.ref c) {h with heap:=h',toks:=tk}),bO f g (functionCode n n6 i m yp p j y) Q E h
def Fh:=λx:((_×_)×_×_)×(_×_)×_×_×_=>zh x.1.1.1 x.1.1.2 x.1.2.1 x.1.2.2 x.2.1.1 x.2.1.2 x.2.2.1 x.2.2.2.1 x.2.2.2.2
def ke:=haveI:=uc;haveI:=eI;haveI:=lx;qy bB Fh
namespace Fi
def f:=ke.1.1.1
def g:=ke.1.1.2
def h:=ke.1.2.1
def n:=ke.1.2.2
def i:=ke.2.1.1
def m:=ke.2.1.2
def p:=ke.2.2.1
def j:=ke.2.2.2.1
def y:=ke.2.2.2.2
theorem ok:zh f g h n i m p j y:=by
 intro E Q H pl I;obtain⟨ps,t,u,z⟩:=pl;rcases z with J|⟨c,hf,L,N⟩
 ·refine wpAny_functionCodeX H t u J λq h' tk R ι ι v r w⟨W,_,_,x⟩=>?_
  have O:Cc h' q:=by
   obtain⟨⟨o,vs,a,b,d,_⟩,_⟩:=x;exact⟨o,a,⟨vs,d⟩,b⟩
  refine I q h' tk (λb o S e=>R b o S e) ⟨_,v,w,.inr ⟨q,?_,r,O⟩⟩ r O;refine ck λC=>?_;obtain⟨_,_,_,_,_,_,_,_,_,_,_,_,_,_,_,_,_,_,_,D,_⟩:=t;refine C ?_;rw[(by simp:(ps++ #[pS n6.line,pS n6.col,cX q]).toList=ps.toList++[pS n6.line,pS n6.col,.ref q])]
  exact codeAmong_snoc _ D J
 ·refine ck λC=>?_
  obtain⟨⟨o,vs,T,_,U,l⟩,F⟩:=id u;refine C ?_;have l:vs.getD 11 .none=.ref t5:=by rw[Array.getD_eq_getD_getElem?,l];rfl
  unfold functionCode codeAt;rw[H,aU (show ¬((cX A5==jN)=aq) from bM)]
  refine ak (wpAny_fieldsOf T U ?_);exact l▸(ak (wpAny_fieldsOf F rfl (hf▸aH (I c h.heap h.toks (λb o ι e=>e) ⟨ps,t,u,.inr ⟨c,hf,L,N⟩⟩ L N))))
end Fi
theorem TY:zh M A s env f name p scope body:=@d5 _ _ Fh @Fi.ok (((M,A),s,env),(f,name),p,scope,body)
end
section
variable{X:Ctx}{P:bZ}{ρ:fO}{h h' :bJ}{σ:St}
theorem vF.at_(x:vF h):∃o,h.get? t5=aa o/\o.cls=.none:=x.elim λι z=>⟨_,z.2.1.2,rfl⟩
theorem Cc.off(S:h5 X P ρ σ h)(x:Cc h c): ¬adr ρ c:=by
 obtain⟨o,e,d,k⟩:=x;rintro(rfl|⟨p,hp,rfl|rfl⟩)
 ·obtain⟨o',a,k'⟩:=S.pl.at_
  obtain rfl:=af (e.symm.trans a);exact nomatch k.symm.trans k'
 ·exact(S.x4 p hp).2.1 o e ⟨d,.inl k⟩
 ·exact(S.x4 p hp).2.2 o e ⟨d,.inl k⟩
theorem h5.ado(S:h5 X P ρ σ h)(z:X.h0.get? t5=aw)(k:∀b o,b≠t5->h.get? b=aa o->h'.get? b=aa o)(pl:vF h'):h5 X P ρ σ h'/\bY ρ h ρ h' []:=by
 have g:bY ρ h ρ h' []:=bY.heap (λb o e=>by
  by_cases q:b=t5
  ·obtain⟨o',f,_⟩:=pl.at_;exact⟨o',q▸f⟩
  ·exact⟨o,k b o q e⟩) λb o ι n e=>k b o (λq=>n (.inl q)) e
 have kL:∀p∈ρ,(∀x,h.get? p.1=aa x->h'.get? p.1=aa x)/\∀x,h.get? p.2=aa x->h'.get? p.2=aa x:=λp hp=>⟨λx e=>k _ x (S.x4 p hp).1.1 e,λx e=>k _ x (S.x4 p hp).1.2 e⟩;refine⟨⟨λb o e=>k b o (λq=>b6 ((q▸z).symm.trans e)) (S.base b o e),S.len,λq c=>?_,S.apart,λq c us=>?_,λm x e=>?_,pl,λq c=>⟨(S.x4 q c).1,(S.x4 q c).2.same (S.above q c).2 (kL q c)⟩⟩,g⟩
 ·refine ck λi=>?_
  obtain⟨a,⟨j,e1⟩,l,e2⟩:=S.above q c;exact i (⟨a,⟨j,(kL q c).1 _ e1⟩,l,(kL q c).2 _ e2⟩)
 ·have a:=(S.above q c).2
  exact⟨λt=>(S.nt q c us).1 (jm a.1 (kL q c).1 t),λt=>(S.nt q c us).2 (jm a.2 (kL q c).2 t)⟩
 ·obtain⟨p,hp,r⟩:=S.objs m x e
  have d:=kL p (aA hp);exact⟨p,hp,r.mono g NT.nil d.1 d.2⟩
theorem CodeRec.grow(x:h.CodeRec (.ref c) q)(n: ¬adr ρ c)(g:bY ρ h a h' []):h'.CodeRec (.ref c) q:=by
 obtain⟨d,b,vs,t,e,o,r⟩:=x;injection e with e;subst e
 exact⟨c,b,vs,t,rfl,g.keep c b o n gL,r⟩
end
set_option backward.match.sparseCases false in
noncomputable def TZ:aQ->xr
 |.Lambda a b c d=>a|_=>cC
set_option backward.match.sparseCases false in
noncomputable def HB:aQ->aQ
 |.Lambda a b c d=>b|e=>e
set_option backward.match.sparseCases false in
noncomputable def mZ:aQ->jB
 |.Lambda a b s c=>s|_=>cC
noncomputable def t6:Str:=aL "key"
noncomputable def Wu:Str:=aL "row"
noncomputable def wNm:Str:=aL "key_worth"
noncomputable def JL(c:aB)(T code pm:ag):gU:={name:="<lambda>",qualname:=yp,params:=TZ eD,body:=.expr (HB eD),scope:=mZ eD,globals:=dh,closure:=[(t6,c)],closureTuple:=T,code:=code,builtins:=fh,defaults:=.none,kwdefaults:=.none,annotations:=aw,pyModule:=pm,doc:=.none}
theorem Yv:eD=.Lambda (TZ eD) (HB eD) (mZ eD) n6:=⋯
theorem T3:defaultsOf (TZ eD) env=([],[]):=⋯
theorem O4:((dT 195).name++".<locals>.":Str)++"<lambda>"=yp:=⋯
theorem rL:(mZ eD).names=[(Wu,.local),(t6,.free),(wNm,.globalImplicit)]:=⋯
theorem T5(h:env.cells.lookup t6=aa c):Iz (mZ eD) env=pure [(t6,c)]:=by
 have e:cellOf env t6=pure c:=by unfold cellOf;rw[h]
 unfold Iz;refine rL▸?_;simp[(rfl:(ff.local==dA)=ai),(rfl:(ff.globalImplicit==dA)=ai),e]
def T6:ae:=Hr ((RN P0 3 "__builtins__").getD .none)
theorem bm_(P:bZ):atC P [T6]=[T6].map (λa=>(aa (oC a),aq,aa (oC a)))/\RN P 3 "__builtins__"=aa (.ref T6)/\fA ("__builtins__":Str)=aa (enc "__builtins__")/\(au T6 fh ||(au T6 dh ||au T6 t5))=ai/\(oC T6).cls=.type "module"/\(oC T6).dict=aa fh/\(oC T6).data=.plain:=
 ⟨⋯,⋯,⋯,⋯,⋯,⋯,⋯⟩
theorem HC(h:au a b=ai):a≠b:=λe=>by rw[e,eL]at h;exact tF h
theorem aa7(H:HX w X):∃mg,X.h0.Ns dh mg/\X.h0.BuiltinsAt mg t5:=by
 refine ck λb=>?_;obtain⟨n,s3⟩:=uR (a:=3) (by decide)
 obtain⟨e1,e2,e3,e4,e5,e6,e7⟩:=bm_ w.params;obtain⟨c,e4⟩:=(i_ ..).mp e4;obtain⟨d,e⟩:=(i_ ..).mp e4;exact b (H.h0▸⟨_,n,_,_,((lg s3).2 e3).trans e2,HC c,HC d,HC e,Lo e1 ax,e5,e6,e7⟩)
section
variable{G:Gm}{k:Kf}{σ:St}{sc:Sc}{re:aX}{env:Env}
def we(a:Gm)(d:Kf)(e:Env)(c:aB):Prop:=∀{σ:St}{sc:Sc}{re:aX}(H:HX a.w a.X)(S:SR a d σ)(R:cB a d e sc re)(f:e.code=.ref A5)(g:e.qual=(dT 195).name++".<locals>.")(l:e.cells.lookup t6=aa c){A:aW}{Q:ag->ah->Prop}{E:ag->ah->Prop}(q:∀k' F T code pm,Le d k'->SR a k' σ->d.h.get? F=aw->k'.h.get? F=aa {cls:=.type "function",data:=.func (JL c T (.ref code) pm)}->¬adr k'.ρ F->¬adr k'.ρ code->k'.h.CodeRec (.ref code) yp->Q (.ref F) (sh a.b k')),bk (Md a.w) A (cn eD e) Q E (sh a.b d)
def Bz:=λx:(_×_)×_×_=>we x.1.1 x.1.2 x.2.1 x.2.2
def rM:=haveI:=Am;haveI:=Cv;qy bB Bz
namespace BA
def a:=rM.1.1
def d:=rM.1.2
def e:=rM.2.1
def c:=rM.2.2
theorem ok:we a d e c:=by
 intro σ sc re H S R u w f A Q E q;refine ck λx=>?_;obtain⟨mg,y,I,J,m,n,_,j,g,l,i,t⟩:=aa7 H;refine x ?_;have z:a.X.h0.get? t5=aw:=by rw[H.h0];exact JF
 rw[Yv,arm_eval_Lambda,T3];show bk _ _ (do let dv<-xy [];let v<-dJ dv (evalAllOpt []);makeFunction "<lambda>" (e.qual++"<lambda>") (TZ eD) (.expr (HB eD)) (mZ eD) e dv v [] n6 n6.line) _ _ _
 refine aT (ak (aH (ak (dk (aH ?_)))));rw[makeFunction_eq];simp only[vv,ab.filterMap_nil,yk,AW,DN];unfold makeTail;rw[T5 f,w,O4,R.glob];refine ak (aH ?_);refine ak (wpAny_newTextTuple ?_);refine ak (TY u (S.pl.mono (CK.of dt)) λcode h' tk C p D r=>?_);have g1:∀o:Obj,bY d.ρ d.h d.ρ (d.h.push o) []:=λo=>bY.old dt;obtain⟨S2,g2⟩:=h5.ado ((λo=>S.keeps dt) _) z C p;have b:=y.keeps S2.base;refine ak (wpAny_builtinsFor b m n (S2.base _ _ g) l i t ?_);refine ak (wpAny_nsGet b ?_);refine ak (aH (qA ?_ (by size_fits)))
 have g3:bY d.ρ h' d.ρ (h'.push {cls:=.type "function",data:=.func (JL c (.ref d.h.objs.size) (.ref code) ((mg "__name__").getD .none))}) []:=bY.old dt;have F:h'.get? h'.objs.size=aw:=cO (aF _);exact q ⟨d.ρ,_,tk⟩ h'.objs.size _ code _ (((g1 _).trans g2).trans g3) (h5.keeps S2 dt) (gI ((g1 _).trans g2).live F) (bA _ rfl) (S2.cP F).1 (Cc.off S2 r) (CodeRec.grow D (Cc.off S2 r) g3)
end BA
theorem O5:we G k env c:=@d5 _ _ Bz @BA.ok ((G,k),env,c)
end
end
section
variable{X:Ctx}{P:bZ}{ρ:fO}{h h' :bJ}{σ:St}{env:Env}{sc:Sc}{re:aX}{xs:ab aB}
structure m3(xs:ab aB)(h h' :bJ):Prop where
 keep:∀b o,b∉xs->h.get? b=aa o->h'.get? b=aa o
 slot:∀b∈xs,∀o,h.get? b=aa o->∃sl,h'.get? b=aa {o with slots:=sl}
theorem m3.live(t:m3 xs h h')(b:aB)(o:Obj)(e:h.get? b=aa o):∃o',h'.get? b=aa o' :=by
 by_cases q:b∈xs
 ·obtain⟨sl,a⟩:=t.slot b q o e;exact⟨_,a⟩
 ·exact⟨o,t.keep b o q e⟩
theorem m3.grow(t:m3 xs h h'):bY ρ h ρ h' xs:=bY.heap t.live λb o n ι e=>t.keep b o n e
theorem m3.str(t:m3 xs h h')(S:h5 X P ρ σ h)(off:∀a∈xs,Off X ρ h a):h5 X P ρ σ h' :=S.frame off t.live t.keep
theorem m3.envX(t:m3 xs h h')(w:NT h xs)(R:qo X ρ h env sc re)(off:∀a∈xs,∃o,h.get? a=aa o/\∀v,o.data≠.cell v):qo X ρ h' env sc re:=by
 have g:bY ρ h ρ h' xs:=t.grow;have y:∀{a m},h.Ns a m->h'.Ns a m:=λ{a m}n=>by
  obtain⟨o,es,ep,f,j,r⟩:=n
  by_cases q:a∈xs
  ·obtain⟨sl,e⟩:=t.slot a q o f;exact⟨_,es,ep,e,j,r⟩
  ·exact⟨o,es,ep,t.keep a o q f,j,r⟩
 have d:∀{a v},h.IsCell a v->h'.IsCell a v:=λ{a v}c=>by
  obtain⟨o,f,j⟩:=c;refine⟨o,t.keep a o (λq=>?_) f,j⟩;obtain⟨o',s,n⟩:=off a q;obtain rfl:=af (f.symm.trans s);exact n _ j
 obtain⟨m,z,C⟩:=R.ns;refine⟨R.kind,R.glob,R.blt,R.kinds,⟨m,y z,λx n v a b c=>?_⟩,λp e=>?_,λx n v a b c=>?_,R.off,R.apart,R.has,R.norm⟩
 ·obtain⟨u,D,r⟩:=C x n v a b c
  exact⟨u,D,r.mono g w⟩
 ·obtain⟨⟨v,i⟩,n,l,ne⟩:=R.cells p e
  exact⟨⟨v,d i⟩,n,l,ne⟩
 ·obtain⟨c,u,e,i,r⟩:=R.qR x n v a b c
  exact⟨c,u,e,d i,r.mono g w⟩
end
section
variable{G:Gm}{k kr:Kf}{σ:St}{all fs outer:ab Env}{env:Env}{e t:aB}{s' :ah}
def FrA(G:Gm)(k:Kf)(env:Env):Prop:=env.frame=aa env.locals/\env.scope.kind=.function/\(∃m,k.h.Ns env.locals m)/\¬adr k.ρ env.locals/\G.X.h0.get? env.locals=aw
def Act(G:Gm)(k:Kf)(fs:ab Env):Prop:=∀env∈fs,FrA G k env
noncomputable def locs(fs:ab Env):ab aB:=fs.map (·.locals)
noncomputable def BB(k:Kf)(fs:ab Env):bJ:=hideAll k.h (locs fs)
theorem Act.mono(a:Act G k fs)(l:Le k k'):Act G k' fs:=λenv h=>by
 obtain⟨f,d,⟨m,n⟩,c,z⟩:=a env h;exact⟨f,d,⟨m,l.G8 c gL n⟩,(let ⟨_,_,_,o,_⟩:=n;l.off o c),z⟩
theorem Act.cons(a:Act G k fs)(hf:env.frame=aa env.locals)(R:cB G k env sc re):Act G k (env::fs):=λx h=>by
 rcases aG.mp h with rfl|h
 ·exact⟨hf,R.kind,(let ⟨m,n,_⟩:=R.ns;⟨m,n⟩),R.off.1,R.off.2⟩
 ·exact a x h
theorem Act.frames(a:Act G kr all):∀{fs:ab Env},(∀x∈fs,x∈all)->kr.h.FunFrames (BB kr all) fs
 |[],b=>trivial|env::fs,sub=>by
  obtain⟨hf,d,⟨m,n⟩,_⟩:=a env (sub env ax);exact bJ.FunFrames.cons (by exact d▸λq=>nomatch q) hf n (hideAll_none _ (cE (sub env ax))) (Act.frames a λx h=>sub x (aK _ h))
noncomputable abbrev O6:aB:=84
inductive O7(kr:Kf)(b:ah)(all fs:ab Env)(e t:aB)(s' :ah):Prop
 |mk (h' :bJ) (tk:ae) (eq:s' =sh b ⟨kr.ρ,h',tk⟩) (up:kr.h.UpToSlots h') (fly:bJ.FlyingW (BB kr all) fs e (.ref O6) (.ref t) h')
inductive Fj(kr:Kf)(b:ah)(all fs:ab Env)(L e t:aB)(s' :ah):Prop
 |mk (h' :bJ) (tk:ae) (eq:s' =sh b ⟨kr.ρ,h',tk⟩) (up:kr.h.UpToSlots h') (held:bJ.HeldW (BB kr all) fs e (.ref O6) (.ref t) L h')
variable{M:dZ}{A:aW}{E:ag->ah->Prop}{Q:jb->ah->Prop}{b:ah}
theorem Lp(r:A.frames=aa (env::outer))(hf:env.frame=aa L)(f:O7 kr b all (env::outer) e t s')(q:∀s,Fj kr b all (env::outer) L e t s->Q () s):bO M A (i9 (.ref e) env) Q E s' :=by
 obtain⟨h',tk,rfl,u,f⟩:=f;exact wpAny_looks_onW r hf f λa g u2=>q _ ⟨a,tk,rfl,u.trans u2,g⟩
theorem HD(hf:env.frame=aa L)(f:Fj kr b all fs L e t s')(q:Q () s'):bO M A (i9 (.ref e) env) Q E s' :=by
 obtain⟨h',tk,rfl,u,_,_,_,g⟩:=f;exact Rv hf g q
theorem HE(f:Fj kr b all fs L e t s')(q:∀s,O7 kr b all fs e t s->Q () s):bO M A (DC (.ref e) aw) Q E s' :=by
 obtain⟨h',tk,rfl,u,g⟩:=f;exact wpAny_landsW g λa g2 u2=>q _ ⟨a,tk,rfl,u.trans u2,g2⟩
theorem Lq(f:O7 kr b all fs e t s')(q:∀s,O7 kr b all fs e t s->Q () s):bO M A (DC (.ref e) aw) Q E s' :=by
 obtain⟨h',tk,rfl,u,a,c,d,g⟩:=f;exact wpAny_setFlight_noneW a d g.at λi j l m n=>q _ ⟨i,tk,rfl,u.trans λb o hb p=>⟨o.slots,n b o hb p⟩,j,c,l,m⟩
theorem Fm(hf:env.frame=aa L)(f:Fj kr b all (env::outer) L e t s')(q:∀s,O7 kr b all outer e t s->Q () s):bO M A (oX env (.ref e)) Q E s' :=by
 obtain⟨h',tk,rfl,u,g⟩:=f;refine ak (Rv hf g.2.2.2 ?_);refine wpAny_landsW g λa c u2=>?_;refine ck λd=>?_;obtain⟨i,j,⟨_,_,l⟩,m⟩:=c;exact d (q _ ⟨a,tk,rfl,u.trans u2,i,j,l,m⟩)
theorem Lr(hf:env.frame=aa L)(f:Fj kr b all fs L e t s')(q:∀g,Fj kr b all fs L e t g->E (.ref e) g):gJ M A env E (.ref e) s' :=by
 refine ck λx=>?_;obtain⟨h',tk,rfl,u,m,p,y,z,vs,T,D,ts,he,l,v,w,i,j,hT,d,C⟩:=f;have s:=(Array.getElem?_eq_some_iff.mp C).1;have r:∀b,b≠T->(h'.update T (Obj.mapFields (·.setIfInBounds 3 ((aa L).elim jN λf=>pS f)))).get? b=h'.get? b:=λb hb=>eU _ _ (Ne.symm hb);have n:∀b o,h'.get? b=aa o->(∀vs,o.data≠.fields vs)->b≠T:=λb o hb a q=>by
  rw[q,hT]at hb;injection hb with hb;subst hb;exact a ts d
 refine x ?_;refine aT ?_;refine ak (hE he v w ?_);refine gb (show ¬((cX T==jN)=aq) from bM) ?_
 refine hf▸?_;refine ak (hE he v w ?_);refine jG (show(cX T !=jN)=aq from by simp) ?_
 refine wpAny_setField hT d s (q _ ⟨_,tk,rfl,u.trans λb o hb a=>⟨o.slots,(r b (n b o hb a)).trans hb⟩,λb o c=>(r b λq=>by rw[q,i]at c;exact b6 c).trans (m b o c),p,
  y.of_keeps λb o hb a=>⟨o,(r b (n b o hb a)).trans hb,rfl⟩,?_⟩)
 exact⟨z,vs,T,_,_,(r e (Ne.symm j)).trans he,l,v,w,i,j,dw _ hT (Obj.isFreed_of_fields (Rw d _)),Rw d _,by simp[s]⟩
theorem zi(a:Act G kr all)(f:O7 kr b all fs e t s'):∃h' tk,s' =sh b ⟨kr.ρ,h',tk⟩/\m3 (locs all) kr.h h' :=by
 obtain⟨h',tk,rfl,u,d,_⟩:=f;refine⟨h',tk,rfl,λb o n e=>d b o (hideAll_get _ e n),λb hb o e=>?_⟩;refine ck λg=>?_;obtain⟨env,he,rfl⟩:=bF.mp hb;obtain⟨_,_,⟨m,o',es,ep,c,i,_⟩,_⟩:=a env he;obtain rfl:=af (e.symm.trans c);exact g (u _ _ c λvs q=>nomatch i.symm.trans q)
theorem Act.off(a:Act G k fs):∀x∈locs fs,Off G.X k.ρ k.h x/\∃o,k.h.get? x=aa o/\∀v,o.data≠.cell v:=λx f=>by
 refine ck λg=>?_;obtain⟨env,he,rfl⟩:=bF.mp f;obtain⟨_,_,⟨m,o',es,ep,c,d,_⟩,n,z⟩:=a env he;exact g (⟨⟨n,z,pC c (λι ι q=>nomatch d.symm.trans q),eO c λι q=>nomatch d.symm.trans q⟩,o',c,λv q=>nomatch d.symm.trans q⟩)
def SB(G:Gm)(k:Kf):Prop:=SR G k ⟨.nil,k.ρ.length⟩
theorem SB.of(S:SR G k σ):SB G k:=⟨S.base,rfl,S.above,S.apart,S.nt,λi o z=>(b6 (show(aw:ao MO)=aa o from z)),S.pl,S.x4⟩
end
noncomputable abbrev bmE:ab ag:=[.type "Exception",.type "BaseException",.type "object"]
noncomputable abbrev MD:ab ag:=.ref 47::bmE
def Yw(a:ae):ClassData:=match (oC a).data with
 |.cls c=>c|_=>cC
def slO(a i:ae):ao ag:=((oC a).slots[i]?).getD aw
abbrev cG(a n:ae)(b:ab ag):Obj:=excClassObj (Yw a).name (Yw a).qualname a n (Yw a).bases b aq (Yw a).slotNames (Yw a).subclasses (Yw a).abstract (Yw a).collection (oC a).dict (slO a 0) (slO a 1) (slO a 2) (slO a 3) (slO a 5) "Exception.__new__"
noncomputable abbrev ny:Str:=aL "what"
noncomputable abbrev Ad:Str:=aL "at"
noncomputable abbrev zj:Str:=aL "Exception"
noncomputable abbrev qr:Str:=aL "RunFault"
theorem O8(P:bZ):atC P [84,47]=[84,47].map λa=>(aa (oC a),aq,aa (oC a)):=⋯
theorem JM:oC 84=cG 84 83 MD/\oC 47=cG 47 46 bmE:=⟨⋯,⋯⟩
theorem Ls(P:bZ):([("__init__":Str),"__setattr__",ny,Ad].map λx=>(RN P 83 x,RN P 46 x,fA x))=[(aw,aa (.ref 37),aa (enc "__init__")),(aw,aw,aa (enc "__setattr__")),(aw,aw,aa (enc ny)),(aw,aw,aa (enc Ad))]:=⋯
structure fX(h:bJ):Prop where
 cls:h.get? 84=aa (cG 84 83 MD)
 up:h.get? 47=aa (cG 47 46 bmE)
 ns:∃m,h.Ns 83 m/\m "__init__"=aw/\m "__setattr__"=aw/\m ny=aw/\m Ad=aw
 nsU:∃m,h.Ns 46 m/\m "__init__"=aa (.ref 37)/\m "__setattr__"=aw/\m ny=aw/\m Ad=aw
theorem fX.keeps(f:fX h)(k:∀b o,h.get? b=aa o->h'.get? b=aa o):fX h' :=
 ⟨k _ _ f.cls,k _ _ f.up,f.ns.imp λι z=>⟨z.1.keeps k,z.2⟩,f.nsU.imp λι z=>⟨z.1.keeps k,z.2⟩⟩
theorem O9(H:HX w X):fX X.h0:=by
 have e:=Ls w.params;obtain⟨n,s⟩:=uR (P:=w.params) (a:=83) (by decide)
 obtain⟨b,c⟩:=uR (P:=w.params) (a:=46) (by decide)
 obtain⟨e0,e⟩:=c7 e;obtain⟨e1,e⟩:=c7 e;obtain⟨e2,e⟩:=c7 e;obtain⟨e3,_⟩:=c7 e;have g:=λ{x:Str}{u v:ao ag}(e:(RN w.params 83 x,RN w.params 46 x,fA x)=(u,v,aa (enc x)))=>show tY (tb (sd w.params 83)).toArray x=u/\tY (tb (sd w.params 46)).toArray x=v from
  ⟨((lg s).2 (av (av e).2).2).trans (av e).1,((lg c).2 (av (av e).2).2).trans (av (av e).2).1⟩
 rw[H.h0];exact⟨JM.1▸Lo (O8 w.params) (by decide),JM.2▸Lo (O8 w.params) (by decide),⟨_,n,(g e0).1,(g e1).1,(g e2).1,(g e3).1⟩,⟨_,b,(g e0).2,(g e1).2,(g e2).2,(g e3).2⟩⟩
theorem Lu(P:bZ):[RN P 3 zj,RN P 0 zj,RN P 3 qr]=[aw,aa (.type "Exception"),aa (.ref 84)]/\fA zj=aa (enc zj)/\fA qr=aa (enc qr):=⟨⋯,⋯,⋯⟩
theorem Yx(H:HX w X):∃mg mb,X.h0.Ns dh mg/\X.h0.Ns fh mb/\mg zj=aw/\mb zj=aa (.type "Exception")/\mg qr=aa (.ref 84):=by
 obtain⟨n,s3⟩:=uR (P:=w.params) (a:=3) (by decide)
 obtain⟨b,s⟩:=uR (P:=w.params) (a:=0) (by decide)
 obtain⟨e,x1,x⟩:=Lu w.params;obtain⟨e0,e⟩:=c7 e;obtain⟨e1,e⟩:=c7 e;rw[H.h0];exact⟨_,_,n,b,((lg s3).2 x1).trans e0,((lg s).2 x1).trans e1,((lg s3).2 x).trans (c7 e).1⟩
section
open Sem (wp)
abbrev Fo:=PySem.F.excBase_Exception
theorem hcE:(cX 84::MD).contains (.type "Exception")=aq:=by decide+kernel
theorem hcA:(cX 84::MD).contains (.type "AttributeError")=ai:=by decide+kernel
theorem hcN:(cX 84::MD).contains (.type "NameError")=ai:=by decide+kernel
theorem hcO:(cX 84::MD).contains (.type "object")=aq:=by decide+kernel
theorem hcC:(cX 84::MD).contains (.ref 84)=aq:=ab.elem_cons_self
section
variable{M:dZ}{A:aW}{E:ag->ah->Prop}{h:bJ}{g:Array gu}{d:ou}{t:ae}{os:eT}
theorem zk(f:fX h)(a:∀m,h.Ns 83 m->m name=aw)(b:∀m,h.Ns 46 m->m name=v)(hB:dQ (.type "Exception") name=pure y){Q:ao ag->ah->Prop}(q:Q (match v with|some v=>aa v|none=>y) ⟨h,g,d,t,os⟩):bO M A (dQ (.ref 84) name) Q E ⟨h,g,d,t,os⟩:=by
 refine ck λk=>?_;obtain⟨hC,U,⟨m,n,_⟩,⟨c,n',_⟩⟩:=f;refine k ?_;have r:=by rw[typeLookup_eq,Fo.mroIs]at hB;exact hB
 rw[typeLookup_eq];refine ak (wpAny_mroOf_exc hC ?_);rw[lookupAlong_cons];refine ak (wpAny_classOwn_exc hC n ?_);refine(a m n)▸?_;rw[lookupAlong_cons];refine ak (wpAny_classOwn_exc U n' ?_);refine(b c n')▸?_
 induction v with
 |some v=>exact aH q|none=>refine tn r ?_;exact aH q
def mB(rest:ab ag)(Q:jb->ah->Prop):Prop:=∀{M:dZ}{A:aW}{E:ag->ah->Prop}{h:bJ}{g:Array gu}{d:ou}{t:ae}{os:eT}(hC:h.get? 84=aa (cG 84 83 MD))(q:Q () ⟨h,g,d,t,os⟩),bO M A (checkBuiltinCall "Exception.__new__" ⟨.ref 84::rest,[]⟩) Q E ⟨h,g,d,t,os⟩
namespace uX
def zz:ab ag×(jb->ah->Prop):=gB λx=> ¬mB x.1 x.2
def rest:ab ag:=zz.1
def Q:jb->ah->Prop:=zz.2
theorem ok:mB rest Q:=by
 intro M A E h g d t os hC q;have s:=Fo.noStar;simp only[checkBuiltinCall,Fo.newKind,Fo.newSplit,Fo.newRow]
 repeat (first|refine dp hC ?_|(refine ik hC ?_;rw[hcE])|refine wpAny_staticBase_exc hC ?_|refine wpAny_madeBy_exc hC ?_|simp only[bne_self_eq_false,ft,pP]|wp_step)
 exact q
end uX
theorem Fp:mB rest Q:=@ub _ (λx=>mB x.1 x.2) (rest,Q) @uX.ok
end
section
variable{prog:bS}{w:bU}{A:aW}{R:c8->ah->Prop}{E:ag->ah->Prop}{h:bJ}{g:Array gu}{d:ou}{t:ae}{os:eT}
noncomputable abbrev C9(C t:aB):Obj:={cls:=.ref C,data:=.fields #[.ref t,.none,.none,.none,.bool ai,.none]}
noncomputable abbrev BC(h:bJ)(C:aB)(rest:ab ag):bJ:=(h.push {cls:=.type "tuple",data:=.seq rest.toArray}).push (C9 C h.objs.size)
theorem Lv(hC:h.get? 84=aa (cG 84 83 MD))(q:R (.ok (.ret (.ref (h.objs.size+1)))) ⟨BC h 84 rest,g,d,t,os⟩)(r:rest.length<=ec):codeAny (bK prog w) A (.builtin "Exception.__new__" ⟨.ref 84::rest,[]⟩) R ⟨h,g,d,t,os⟩:=by
 have e:=Fo.ends;refine codeAny_builtinAt Fo.entry ?_;refine R9 ?_;refine R9 (PySem.wpAt_stack λp b=>Kh ?_)
 wp_walk
 refine Kh ?_;refine Fo.owner▸?_
 repeat (first|with_reducible refine wpAny_madeHere_exc Fo.canon hC ?_|with_reducible refine dp hC ?_|(with_reducible refine ik hC ?_;first|rw[hcE]|rw[hcA]|rw[hcN])|wp_step)
 show R _ _;rw[Ca];exact q
def kQ(p:bS)(c:bU)(i:aW)(j:ag->ah->Prop)(k:bJ)(s:ab ag)(Q:Fin->ah->Prop):Prop:=∀{g:Array gu}{d:ou}{t:ae}{os:eT}{o:Obj}(f:fX k)(I:k.get? 37=aa o)(a:o.cls=.type "function")(q:bO (bK p c) i (call (.ref 37) (.ref (k.objs.size+1)::s)) (λr b=>r=.none/\Q (.done (.ret (.ref (k.objs.size+1)))) b) j ⟨BC k 84 s,g,d,t,os⟩)(e:s.length<=ec),bO (bK p c) i (Builtin.«type.__call__» ⟨.ref 84::s,[]⟩) Q j ⟨k,g,d,t,os⟩
def oL:=λx:(_×_×_)×(_×_)×_×_=>kQ x.1.1 x.1.2.1 x.1.2.2 x.2.1.1 x.2.1.2 x.2.2.1 x.2.2.2
def fe:=haveI:=iG;haveI:=eI;qy bB oL
namespace oM
def p:=fe.1.1
def c:=fe.1.2.1
def i:=fe.1.2.2
def j:=fe.2.1.1
def k:=fe.2.1.2
def s:=fe.2.2.1
def Q:=fe.2.2.2
theorem ok:kQ p c i j k s Q:=by
 intro g d t os Y f I D P q;have hC:=f.cls
 repeat (first|with_reducible refine dp hC ?_|with_reducible refine wpAny_madeBy_exc hC ?_|wp_step)
 refine codeAny_call_builtin_code (nZ _ Fo.quiet) (Fp hC ?_);refine Lv hC ?_ q;have F:∀b o,k.get? b=aa o->(BC k 84 s).get? b=aa o:=λb o e=>bf _ (bf _ e);have l:=f.keeps F;have u:=by heap_get
 repeat (first|with_reducible refine dp u ?_|(with_reducible refine ik (F _ _ hC) ?_;rw[hcC])|wp_step)
 have O:∀{a:aB}{m C:Str->ao ag}{G:bJ},G.Ns a m->G.Ns a C->m=C:=λ{a m C G}x y=>by
  obtain⟨o,es,ep,e1,e2,_,e3⟩:=x;obtain⟨o',es',S,H,J,_,L⟩:=y;obtain rfl:=af (e1.symm.trans H)
  cases e2.symm.trans J
  exact funext λz=>(e3 z).symm.trans (L z)
 refine ck λT=>?_;obtain⟨m,n,U,_⟩:=l.ns;obtain⟨C,n',N,_⟩:=l.nsU;refine T ?_;refine zk l (v:=aa (.ref 37)) (λz hz=>by rw[O hz n];exact U) (λz hz=>by rw[O hz n'];exact N) Fo.init.lookup ?_
 refine dk (ak ?_);refine ak (AV ⟨_,(F _ _ I),D⟩ ?_);refine jG (by decide) ?_
 refine aH (ak (z_ P (λr Z W=>?_) λι ι x=>x));obtain⟨rfl,X⟩:=W
 wp_walk
 exact X
end oM
theorem xJ:kQ prog w A E h rest Q:=@d5 _ _ oL @oM.ok ((prog,w,A),(E,h),rest,Q)
theorem HF{Q:ag->ah->Prop}(f:fX h)(I:h.get? 37=aa o)(c:o.cls=.type "function")(q:bO (bK prog w) (A.under (.builtin "type.__call__" ⟨.ref 84::rest,[]⟩)) (call (.ref 37) (.ref (h.objs.size+1)::rest)) (λr s=>r=.none/\Q (.ref (h.objs.size+1)) s) E ⟨BC h 84 rest,g,d,t,os⟩)(e:rest.length<=ec):
  bO (bK prog w) A (call (.ref 84) rest) Q E ⟨h,g,d,t,os⟩:=by
 have hC:=f.cls;have a:=tc_lookup;have b:=PySem.tc_bind (.ref 84);have hT:(⟨h,g,d,t,os⟩:ah).TypeIs (.ref 84) "type":=⟨_,hC,rfl⟩;refine IH (codeAny_of_tree ?_)
 repeat (any_goals (first|assumption|with_reducible refine dp hC ?_|wp_step))
 exact⟨rfl,(codeAny_call_builtin_at (nZ _ (by decide+kernel)) entry_typeCall (wpAny_check_type_call_sub hC (xJ f I c q e)))⟩
end
end
abbrev uY:=PySem.F.store_Exception
section
variable{prog:bS}{w:bU}{A:aW}{E:ag->ah->Prop}{s:ah}
noncomputable def noK:jT:=[]
theorem Yy(h:bJ):noK.In h:=λa o e=>b6 e
theorem AD{Q:ag->ah->Prop}(q:Q (.builtin "Exception.__init__") {s with toks:=s.toks+1}):bO (bK prog w) A (Q8 (.type "Exception") "__init__" x) Q E s:=by
 have X:=Yy s.heap;have a:Manifest.isStub "Exception"=ai:=by decide+kernel
 have u:DO (.type "Exception")=pure aw:=by unfold DO;dsimp only;rw[a];rfl
 have L:Iv (bK prog w) s.heap (IA (.type "Exception")) (.type "type"):=t9 (kitMeta_of (by decide+kernel))
 have O:Iv (bK prog w) s.heap (DO (.type "Exception")) aw:=t9 u;have e:findCls [] (.type "Exception") (.type "type") "__init__"=aa (.val (.builtin "Exception.__init__")):=⋯;exact cls_open X O L type_tga (looks_hook X (r:=aw) (by rfl)) (by show subIn [] _ _=_;rfl) e (aH (handed_on (by decide+kernel) q))
theorem AE{Q:ag×ab ag->ah->Prop}(q:Q (.builtin "Exception.__init__",[]) {s with toks:=s.toks+1}):bO (bK prog w) A (sm (.type "Exception") "__init__" pl) Q E s:=by
 have a:dQ (.type "type") "__getattribute__"=pure (aa (.builtin "type.__getattribute__")):=by rw[cH,bQ];kernel_rfl
 have L:IA (.type "Exception")=pure (.type "type"):=kitMeta_of (by decide+kernel)
 have p:specialOf (.type "Exception") "__getattribute__"=pure (aa (.builtin "type.__getattribute__")):=by unfold specialOf;rw[L,DN];exact a
 unfold sm;rw[p];refine ak (aH ?_);dsimp only;rw[bc canon_tga];exact ak (z_ (AD (Q:=λv b=>Q (v,[]) b) q) (λι ι z=>aH z) λι ι z=>z)
end
section
variable{prog:bS}{w:bU}{M:dZ}{A:aW}{E:ag->ah->Prop}{h:bJ}{g:Array gu}{d:ou}{t:ae}{os:eT}
def kf(c:dZ)(i:aW)(j:ag->ah->Prop)(e:aB)(r:ab ag)(Q:jb->ah->Prop):Prop:=∀{h:bJ}{g:Array gu}{d:ou}{t:ae}{os:eT}(f:fX h){o:Obj}(he:h.get? e=aa o)(l:o.cls=.ref 84)(q:Q () ⟨h,g,d,t,os⟩),bO c i (checkBuiltinCall "Exception.__init__" ⟨.ref e::r,[]⟩) Q j ⟨h,g,d,t,os⟩
def nV:=λx:(_×_×_)×_×_×_=>kf x.1.1 x.1.2.1 x.1.2.2 x.2.1 x.2.2.1 x.2.2.2
def fJ:=haveI:=uc;haveI:=eI;qy bB nV
namespace nW
def c:=fJ.1.1
def i:=fJ.1.2.1
def j:=fJ.1.2.2
def e:=fJ.2.1
def r:=fJ.2.2.1
def Q:=fJ.2.2.2
theorem ok:kf c i j e r Q:=by
 intro h g d t os f k he l q;have hC:=f.cls;have o:=Fo.noStar;simp only[checkBuiltinCall,Fo.initKind,Fo.initSplit,Fo.initRow]
 repeat (first|(with_reducible refine dp he ?_;rw[l])|with_reducible refine dp hC ?_|(with_reducible refine ik hC ?_;rw[hcE])|wp_step)
 refine wpAny_onRaise ?_;rw[show ∀(a b:cZ)(n:ae),Bind.check ⟨.positional,"*","Exception",.self,[⟨"args",.varPos,ai⟩]⟩ a b n (Xg (λx=>x.fst) ({pos:=cX e::r}:Args).kw)=pure () from
  λa b n=>check_star_args _ _ _ _ _ _]
 exact aH q
end nW
theorem wg:kf M A E e rest Q:=@d5 _ _ nV @nW.ok ((M,A,E),e,rest,Q)
theorem AF(f:fX h){Q:ag->ah->Prop}(he:h.get? e=aa (C9 84 t0))(r:rest.length<=ec)(q:∀h' a,(∀b o,b≠e->h.get? b=aa o->h'.get? b=aa o)->h'.get? e=aa (C9 84 a)->Q .none ⟨h',g,d,t,os⟩):bO (bK prog w) A (call (.builtin "Exception.__init__") (.ref e::rest)) Q E ⟨h,g,d,t,os⟩:=by
 refine IH (wY Fo.init.plain Fo.initEntry (wg f he rfl ?_))
 wp_walk
 refine q _ h.objs.size (λb o n hb=>?_) ?_
 ·rw[eU _ _ (Ne.symm n)]
  exact bf _ hb
 ·rw[dw _ (bf _ he) rfl]
  rfl
end
section
open Builtin Builtin.ObjectAttr
section
variable{prog:bS}{w:bU}{M:dZ}{A:aW}{E:ag->ah->Prop}{h:bJ}{g:Array gu}{d:ou}{t:ae}{os:eT}{x:aB}{mA:Str->ao ag}{name:Str}{v:ag}
theorem tJ(f:fX h)(n:∀m,h.Ns 83 m->m name=aw)(a:∀m,h.Ns 46 m->m name=aw)(hB:dQ (.type "Exception") name=pure y){Q:ao ag->ah->Prop}(q:Q y ⟨h,g,d,t,os⟩):
  bO M A (dQ (.ref 84) name) Q E ⟨h,g,d,t,os⟩:=zk f (v:=aw) n a hB q
theorem BD(f:fX h){Q:ab ag->ah->Prop}(q:Q (.ref 84::MD) ⟨h,g,d,t,os⟩):bO M A (mroOf (.ref 84)) Q E ⟨h,g,d,t,os⟩:=by
 have hC:=f.cls;exact wpAny_mroOf_exc hC q
theorem Lw(f:fX h){Q:aE->ah->Prop}(q:Q ((cX 84::MD).contains base) ⟨h,g,d,t,os⟩):bO M A (MQ (.ref 84) base) Q E ⟨h,g,d,t,os⟩:=by
 have hC:=f.cls;exact ik hC q
def ma(a:dZ)(b:aW)(c:aB)(e:ag)(n:ag):Prop:=∀{E:ag->ah->Prop}{h:bJ}{g:Array gu}{d:ou}{t:ae}{os:eT}{o:Obj}{Q:jb->ah->Prop}(f:fX h)(i:h.get? c=aa o)(j:o.cls=.ref 84)(q:Q () ⟨h,g,d,t,os⟩),bO a b (checkBuiltinCall "object.__setattr__" ⟨[.ref c,n,e],[]⟩) Q E ⟨h,g,d,t,os⟩
def p9:=λx:(_×_)×_×_×_=>ma x.1.1 x.1.2 x.2.1 x.2.2.1 x.2.2.2
def ic:=haveI:=uc;haveI:=eI;qy bB p9
namespace p_
def a:=ic.1.1
def b:=ic.1.2
def c:=ic.2.1
def e:=ic.2.2.1
def n:=ic.2.2.2
theorem ok:ma a b c e n:=by
 intro E h g d t os o Q f k l q;have j:=uY.args (.ref c) n e;simp only[checkBuiltinCall,uY.kind,uY.split];refine ak ?_
 ·unfold isInstance
  repeat (first|(with_reducible refine dp k ?_;rw[l])|(with_reducible refine Lw f ?_;rw[hcO])|wp_step)
  induction s:Gb "object.__setattr__" with
  |none=>first|exact aH q|exact q
  |some i=>
   simp only[kl,s]at j;have m:Ce "object.__setattr__" i ⟨[.ref c,n,e],[]⟩=pure ():=j
   first
    |exact q
    |(show bO a b (Ce "object.__setattr__" i ⟨[.ref c,n,e],[]⟩) Q E p
      rw[m];exact aH q)
end p_
theorem zl:ma M A x v n:=@d5 _ _ p9 @p_.ok ((M,A),x,v,n)
def oa(p:bS)(a:bU)(i:aW)(j:ag->ah->Prop)(k:bJ)(l:Array gu)(n:ou)(q:ae)(s:eT)(r:aB)(u:Str)(z:ag)(B:Tok)(Q:Fin->ah->Prop):Prop:=∀{o:Obj}(f:fX k)(F:∀m,k.Ns 83 m->m u=aw)(G:∀m,k.Ns 46 m->m u=aw)(hB:dQ (.type "Exception") u=pure aw)(J:k.get? r=aa o)(L:o.cls=.ref 84)(H:o.dict=aw)(I:∀c,o.data≠.cls c)(N:∀h' e C,h'.get? r=aa {o with dict:=aa C}->k.get? C=aw->h'.Ns1 C (λy=>if y=u then aa z else aw)->(∀b D,b≠r->k.get? b=aa D->h'.get? b=aa D)->Q (.done (.ret .none)) ⟨h',l,n,e,s⟩),bO (bK p a) i (Builtin.«object.__setattr__» ⟨[.ref r,.str u B,z],[]⟩) Q j ⟨k,l,n,q,s⟩
def sQ:=λx:((_×_×_)×(_×_)×_×_)×(_×_×_)×(_×_)×_×_=>oa x.1.1.1 x.1.1.2.1 x.1.1.2.2 x.1.2.1.1 x.1.2.1.2 x.1.2.2.1 x.1.2.2.2 x.2.1.1 x.2.1.2.1 x.2.1.2.2 x.2.2.1.1 x.2.2.1.2 x.2.2.2.1 x.2.2.2.2
def dC:=haveI:=iG;haveI:=eI;haveI:=IW;qy bB sQ
namespace sW
def p:=dC.1.1.1
def a:=dC.1.1.2.1
def i:=dC.1.1.2.2
def j:=dC.1.2.1.1
def k:=dC.1.2.1.2
def l:=dC.1.2.2.1
def n:=dC.1.2.2.2
def q:=dC.2.1.1
def s:=dC.2.1.2.1
def r:=dC.2.1.2.2
def u:=dC.2.2.1.1
def z:=dC.2.2.1.2
def B:=dC.2.2.2.1
def Q:=dC.2.2.2.2
theorem ok:oa p a i j k l n q s r u z B Q:=by
 intro o f H I hB G Y J L Z;have hC:=f.cls;have y:=uY.passes (.ref r);unfold Builtin.«object.__setattr__»
 repeat (first|rw[refuse_eq]|(rw[w0,w0,y])|(with_reducible refine dp G ?_;rw[Y])|with_reducible refine BD f ?_|with_reducible refine tJ f H I hB ?_|wp_step)
 rw[J,aU (by simp[typeHasDict])]
 split
 ·rename_i C
  cases C
 split
 ·rename_i c C
  exact er C (L c)
 ·have m:(k.push {cls:=.type "dict",data:=.dict #[]}).get? r=aa o:=bf _ G
  have D:r≠k.objs.size:=df (eG G);refine ak (wpAny_alloc' ?_);refine ak (wpAny_update' m ?_);refine aH ?_;have N:((k.push {cls:=.type "dict",data:=.dict #[]}).update r λo=>{cls:=o.cls,dict:=aa k.objs.size,data:=o.data,slots:=o.slots}).get? k.objs.size=aa {cls:=.type "dict",data:=.dict #[]}:=
   (My _ _ _ _ D.symm).trans (bJ.get?_push_at rfl rfl)
  have O:((k.push {cls:=.type "dict",data:=.dict #[]}).update r λo=>{cls:=o.cls,dict:=aa k.objs.size,data:=o.data,slots:=o.slots}).Ns k.objs.size (λι=>aw):=
   ⟨_,#[],_,N,rfl,λe he=>er he (Array.not_mem_empty e),λι=>rfl⟩
  show bO _ _ (storeInDict k.objs.size (.str u B) u z) _ _ _;unfold storeInDict newKeyGuard;refine ak (aH (ak (wpAny_nsSet1 (bJ.Ns1.of_empty O) λh' F X=>?_)));obtain⟨oD,esD,epD,P,R,S⟩:=F.count (Gu u z Within.nil);refine ak (sk P (by rw[R];exact DF (bq S (by rw[cY,mR,bD];lia))) ?_)
  wp_walk
  refine Z h' _ k.objs.size ((X.2 r D).trans (dw _ m ?_)) (s7 (aF _)) F λb ob T hb=>?_
  ·have U:=(bJ.get?_some_iff.mp G).2
   obtain⟨oc,od,W,osl⟩:=o
   cases W<;>first|rfl|exact U
  ·exact(X.2 b (df (eG hb))).trans ((My _ _ _ _ T).trans (bf _ hb))
end sW
theorem C_:oa prog w A E h g d t os x name v tk Q:=@d5 _ _ sQ @sW.ok (((prog,w,A),(E,h),g,d),(t,os,x),(name,v),tk,Q)
theorem C'{Q:Fin->ah->Prop}(f:fX h)(n:∀m,h.Ns 83 m->m name=aw)(c:∀m,h.Ns 46 m->m name=aw)(hB:dQ (.type "Exception") name=pure aw)(y:h.get? x=aa o)(z:o.cls=.ref 84)(e:o.dict=aa a)(s:h.Ns1 a mA)(C:Within mA u)(hsz:u.length<=1000)(F:∀h' k,(∀b i,b≠a->h.get? b=aa i->h'.get? b=aa i)->Q (.done (.ret .none)) ⟨h',g,d,k,os⟩):
  bO (bK prog w) A (Builtin.«object.__setattr__» ⟨[.ref x,.str name tk,v],[]⟩) Q E ⟨h,g,d,t,os⟩:=by
 have hC:=f.cls;have p:=uY.passes (.ref x);unfold Builtin.«object.__setattr__»
 repeat (first|rw[refuse_eq]|(rw[w0,w0,p])|(with_reducible refine dp y ?_;rw[z])|with_reducible refine BD f ?_|with_reducible refine tJ f n c hB ?_|wp_step)
 rw[e];refine aH ?_;show bO _ _ (storeInDict a (.str name tk) name v) _ _ _;unfold storeInDict newKeyGuard;refine ak (aH (ak (wpAny_nsSet1 s λh' j G=>?_)));obtain⟨J,H,I,D,l,q⟩:=j.count (Gu name v C);refine ak (sk D (by rw[l];exact DF (bq q (by rw[cY,bD];lia))) ?_)
 wp_walk
 exact F h' _ λb i r hb=>(G.2 b r).trans hb
end
theorem rN{h:bJ}{m f:Str->ao ag}(x:h.Ns a m)(y:h.Ns a f):m=f:=by
 obtain⟨o,es,ep,e1,e2,_,e3⟩:=x;obtain⟨o',es',p,e,b,_,c⟩:=y
 cases e1.symm.trans e
 cases e2.symm.trans b
 exact funext λz=>(e3 z).symm.trans (c z)
section
variable{prog:bS}{w:bU}{A:aW}{E:ag->ah->Prop}{h:bJ}{g:Array gu}{d:ou}{t:ae}{os:eT}{x:aB}{name:Str}{v:ag}
theorem sX{o:Obj}{Q:jb->ah->Prop}(f:fX h)(b:h.get? x=aa o)(c:o.cls=.ref 84)(s:∀tk,bO (bK prog w) A.in1 (Builtin.«object.__setattr__» ⟨[.ref x,.str name tk,v],[]⟩) (λfin i=>fin=.done (.ret .none)/\Q () i) E ⟨h,g,d,t+1,os⟩):
  bO (bK prog w) A (setAttr (.ref x) name v) Q E ⟨h,g,d,t,os⟩:=by
 have k:=uY.slot.bind (.ref x);obtain⟨m,n,_,j,_⟩:=f.ns;obtain⟨l,n',_,a,_⟩:=f.nsU;have u1:∀z,h.Ns 83 z->z "__setattr__"=aw:=λz hz=>by rw[rN hz n];exact j
 have u2:∀z,h.Ns 46 z->z "__setattr__"=aw:=λz hz=>by rw[rN hz n'];exact a
 unfold setAttr callSpecial? specialOf
 repeat (any_goals (first|assumption|(with_reducible refine dp b ?_;rw[c])|with_reducible refine tJ f u1 u2 uY.slot.lookup ?_|wp_step))
 refine wY uY.slot.plain uY.entry (zl f b c (z_ (s t) (λfin i q=>?_) λι ι e=>e));obtain⟨rfl,q⟩:=q;exact aH (aH q)
end
end
noncomputable abbrev tK:Str:=aL "self"
noncomputable def bI:ab cF:=[.Expr (.Call (.Attribute (.Name zj ⟨8,8,8,17⟩) "__init__" ⟨8,8,8,26⟩) [.Name tK ⟨8,27,8,31⟩,.Name ny ⟨8,33,8,37⟩] [] ⟨8,8,8,38⟩) ⟨8,8,8,38⟩,
 .Assign [.Attribute (.Name tK ⟨9,8,9,12⟩) ny ⟨9,8,9,17⟩] (.Name ny ⟨9,20,9,24⟩) ⟨9,8,9,24⟩,.Assign [.Attribute (.Name tK ⟨10,8,10,12⟩) Ad ⟨10,8,10,15⟩] (.Name Ad ⟨10,18,10,20⟩) ⟨10,8,10,20⟩]
noncomputable def T7:ab (Str×ff):=[(tK,.local),(ny,.local),(Ad,.local),(zj,.globalImplicit)]
def Yz:gU:=fdO (oC 37)
def T9:ae:=Hr Yz.code
def v0I:ag:=(Ld (oC 30)).getD 0 .none
theorem HH(P:bZ):atC P [37,30,T9]=[37,30,T9].map λa=>(aa (oC a),aq,aa (oC a)):=⋯
structure YA(fd:gU):Prop where
 cls:(oC 37).cls=.type "function"
 dat:(oC 37).data=.func fd
 body:fd.body=.stmts bI
 nam:fd.scope.names=T7
 kind:fd.scope.kind=.function
 co:fd.scope.isCoroutine=ai
 gen:fd.scope.isGenerator=ai
 glob:fd.globals=dh
 blt:fd.builtins=fh
 cod:fd.code=.ref T9
 adp:(oC T9).data=.fields (CY (oC T9))
 adq:(CY (oC T9))[1]? =aa (.str fd.qualname (E4 (((CY (oC T9))[1]?).getD .none)))
theorem zm:YA Yz:=⟨⋯,⋯,⋯,⋯,⋯,⋯,⋯,⋯,⋯,⋯,⋯,⋯⟩
theorem O_(S:Xe)(a b:ag):peek [(30,oC 30)] S (Iy Yz ⟨[a,b],[]⟩)=aa [(tK,a),(ny,b),(Ad,v0I)]:=⋯
structure pJ(h:bJ):Prop where
 at_:h.get? 37=aa (oC 37)
 dfl:h.get? 30=aa (oC 30)
 code:h.get? T9=aa (oC T9)
theorem T_(H:HX w X):pJ X.h0:=by
 rw[H.h0];exact⟨Lo (HH w.params) (by decide),Lo (HH w.params) (by decide),Lo (HH w.params) (aA (i:=2) rfl)⟩
theorem pJ.binds(x:pJ s.heap)(a b:ag):Rk s Yz ⟨[a,b],[]⟩ [(tK,a),(ny,b),(Ad,v0I)]:=kp_binds (K:=[(30,oC 30)]) (λc o e=>by
 by_cases q:c=30
 ·rw[q,IJ]at e;rw[<-af e,q];exact x.dfl
 ·rw[dS,cV.mpr q]at e;exact b6 e) λS=>O_ S a b
theorem pJ.ads(x:pJ h):h.CodeRec Yz.code Yz.qualname:=⟨_,_,_,_,zm.cod,x.code,zm.adp,zm.adq⟩
theorem pJ.keeps(i:pJ h)(k:∀b o,h.get? b=aa o->h'.get? b=aa o):pJ h' :=⟨k _ _ i.at_,k _ _ i.dfl,k _ _ i.code⟩
section
variable{M:dZ}{A:aW}{E:ag->ah->Prop}{s:ah}{env:Env}{pos:Pos}
theorem zo(i:Ms o name env (cn o env)=cn o env)(r:iE (args.length+0) (f6 pos (dm args env)) []=aq)(l:(a.endLine==pos.line)=aq)(h:bO M A (cn o env) (λv b=>bO M A (dJ [v] (AZ aq o env v name)>>=λk=>h7 pos k.1 k.2 (f6 pos (dm args env)) []) Q E b) E s):bO M A (cn (.Call (.Attribute o name a) args [] pos) env) Q E s:=by
 rw[arm_eval_Call,i];refine ak (z_ h (λv b j=>ak (ye ?_)) λι ι x=>x);unfold methodCall;show bO M A (do
  let (f,first)<-dJ [v] (AZ (iE (args.length+0) (f6 pos (dm args env)) []) o env v name)
  let c<-nu (iE (args.length+0) (f6 pos (dm args env)) []) o env a pos
  h7 c f first (f6 pos (dm args env)) []) Q E b
 rw[r];have hp:nu aq o env a pos=pure pos:=by unfold nu;rw[l];rfl
 rw[hp];exact j
end
structure ExcAt(h:bJ):Prop where
 f:fX h
 i:pJ h
 lim:h.NoLimit
 g:∃mg mb,h.Ns dh mg/\h.Ns fh mb/\mg zj=aw/\mb zj=aa (.type "Exception")/\mg qr=aa (.ref 84)
theorem Pa(H:HX w X):ExcAt X.h0:=⟨O9 H,T_ H,OQ H,Yx H⟩
theorem JN:dQ (.type "Exception") ny=pure aw/\dQ (.type "Exception") Ad=pure aw:=⟨by rw[cH,bQ];kernel_rfl,by rw[cH,bQ];kernel_rfl⟩
section
variable{prog:bS}{w:bU}{A:aW}{E:ag->ah->Prop}{hb h:bJ}{g:Array gu}{d:ou}{t:ae}{os:eT}{e t0:aB}{msg:ag}
def q0(r:bS)(a:bU)(c:aW)(j:ag->ah->Prop)(k:bJ)(l:bJ)(m:Array gu)(n:ou)(u:ae)(y:eT)(B:aB)(C:ag)(Q:ag->ah->Prop):Prop:=∀{t0:aB}(X:ExcAt k)(p:∀b o,k.get? b=aa o->l.get? b=aa o)(v:k.get? B=aw)(he:l.get? B=aa (C9 84 t0))(f:c.depth<mh)(q:∀h' tk i x,(∀b o,b≠B->l.get? b=aa o->h'.get? b=aa o)->h'.get? B=aa {C9 84 i with dict:=aa x}->Q .none ⟨h',m,n,tk,y⟩),bO (bK r a) c (call (.ref 37) [.ref B,C]) Q j ⟨l,m,n,u,y⟩
def xn:=λx:((_×_×_)×_×_×_)×(_×_×_)×(_×_)×_×_=>q0 x.1.1.1 x.1.1.2.1 x.1.1.2.2 x.1.2.1 x.1.2.2.1 x.1.2.2.2 x.2.1.1 x.2.1.2.1 x.2.1.2.2 x.2.2.1.1 x.2.2.1.2 x.2.2.2.1 x.2.2.2.2
def eK:=haveI:=iG;haveI:=eI;haveI:=IW;qy bB xn
namespace xo
def r:=eK.1.1.1
def a:=eK.1.1.2.1
def c:=eK.1.1.2.2
def j:=eK.1.2.1
def k:=eK.1.2.2.1
def l:=eK.1.2.2.2
def m:=eK.2.1.1
def n:=eK.2.1.2.1
def u:=eK.2.1.2.2
def y:=eK.2.2.1.1
def B:=eK.2.2.1.2
def C:=eK.2.2.2.1
def Q:=eK.2.2.2.2
theorem ok:q0 r a c j k l m n u y B C Q:=by
 intro t0 X kb de he J q;have Y:=X.i.keeps kb;have Yr:=Y.ads;have bt:=Y.binds (s:=⟨l,m,n,u,y⟩) (.ref B) C;have Z:=zm;generalize Yz=F at Yr bt Z;generalize v0I=L at bt;obtain⟨mg,mb,n1,n2,g1,g2,_⟩:=X.g;obtain⟨m83,T,_,_,w83,U⟩:=X.f.ns;obtain⟨m46,W,_,_,w46,t46⟩:=X.f.nsU;have sl:∀x,F.scope.names.lookup x=T7.lookup x:=λx=>by rw[Z.nam]
 refine IH (codeAny_call_def J Y.at_ Z.dat (X.lim.keeps kb) Yr Z.body bt (λx I=>?_) (λx I=>?_) (λD N hk=>?_) Z.co Z.gen Z.kind)
 ·rw[Z.nam]at I
  simp only[T7,aG,qh,VY]at I;rcases I with rfl|rfl|rfl|rfl<;>exactλz=>nomatch z
 ·rw[sl]
  simp only[aG,qh,VY]at I;rcases I with rfl|rfl|rfl<;>kernel_rfl
 have kd:∀x,(Gv F l.objs.size 37).kindOf x=T7.lookup x:=sl;have O:(Gv F l.objs.size 37).scope.kind=.function:=Z.kind;have lk:∀{x:Str}{v:ag}{s' :ah}{p:Pos}{A' :aW}{E' :ag->ah->Prop}{Q' :ag->ah->Prop},T7.lookup x=aa .local->(x==("__debug__":Str))=ai->s'.heap.Ns l.objs.size (λx=>[(tK,cX B),(ny,C),(Ad,L)].reverse.lookup x)->[(tK,cX B),(ny,C),(Ad,L)].reverse.lookup x=aa v->Q' v s'->
   bO (bK r a) A' (cn (.Name x p) (Gv F l.objs.size 37)) Q' E' s' :=λI hd hn hv hq=>wpAny_Name (wpAny_loadName_local O ((kd _).trans I) hn hv hq) hd
 have kS:T7.lookup tK=aa .local:=⋯;have kW:T7.lookup ny=aa .local:=⋯;have kA:T7.lookup Ad=aa .local:=⋯;have kE:T7.lookup zj=aa .globalImplicit:=⋯;have vS:[(tK,cX B),(ny,C),(Ad,L)].reverse.lookup tK=aa (.ref B):=⋯;have vW:[(tK,cX B),(ny,C),(Ad,L)].reverse.lookup ny=aa C:=⋯;have vA:[(tK,cX B),(ny,C),(Ad,L)].reverse.lookup Ad=aa L:=⋯;have hLe:l.objs.size≠B:=λz=>by
  have:=eG he;rw[<-z]at this;exact ae.lt_irrefl _ this
 have k0:∀b o,k.get? b=aa o->D.get? b=aa o:=λb o z=>hk b o (kb b o z);have neB:∀{b o},k.get? b=aa o->b≠B:=λz q=>b6 ((q▸de).symm.trans z);show bO _ _ (eY bI (Gv F l.objs.size 37)) _ _ _;unfold bI;refine sq (wpAny_Expr_any (zo rfl rfl rfl ?_) ?_ rfl)
 ·refine w5 O ((kd _).trans kE) (loadGlobal_builtin (mg:=mg) (mb:=mb) (v:=.type "Exception") ?_ g1 ?_ g2 ?_) (by decide+kernel)
  ·show D.Ns F.globals mg
   rw[Z.glob];exact n1.keeps k0
  ·show D.Ns F.builtins mb
   rw[Z.blt];exact n2.keeps k0
  refine ak (dk (show bO _ _ (sm (.type "Exception") "__init__" _) _ _ _ from AE ?_))
  refine callWith_of (P:=λι=>True) rfl (λl ι=>⟨.machine,.inr (.inl rfl),λc Q j s ι q=>aH q⟩) ?_;refine evalArgs_plain (wpAny_items_cons (lk kS (by decide+kernel) N vS (wpAny_items_cons (lk kW (by decide+kernel) N vW (wpAny_items_nil ⟨trivial,?_⟩)))))
  show bO _ _ (call (.builtin "Exception.__init__") [.ref B,C]) _ _ _;refine AF (rest:=[C]) (X.f.keeps k0) (hk _ _ he) (by rw[bD];simp) λh1 t1 k1 G=>?_
  have H:∀b o,k.get? b=aa o->h1.get? b=aa o:=λb o z=>k1 b o (neB z) (k0 b o z);have R:=N.at' λo z=>k1 _ o hLe z;refine sq (Xh (lk kW (by decide+kernel) R vW ?_) rfl rfl)
  show bO _ _ (fx (.Attribute (.Name tK ⟨9,8,9,12⟩) ny ⟨9,8,9,17⟩) (Gv F l.objs.size 37) C) _ _ _;rw[DJ];refine ak (dk (lk kS (by decide+kernel) R vS ?_))
  refine ak (ye (ak (dk ?_)));have f1:=X.f.keeps H;have u1:∀z,h1.Ns 83 z->z ny=aw/\z Ad=aw:=λz hz=>by rw[rN hz (T.keeps H)];exact⟨w83,U⟩
  have u2:∀z,h1.Ns 46 z->z ny=aw/\z Ad=aw:=λz hz=>by rw[rN hz (W.keeps H)];exact⟨w46,t46⟩
  refine sX f1 G rfl λtk=>C_ f1 (λz hz=>(u1 z hz).1) (λz hz=>(u2 z hz).1) JN.1 G rfl rfl (λι z=>nomatch z) λh2 tk2 dx HI dd hd2 k2=>⟨rfl,?_⟩;refine wO ?_;have S:∀b o,k.get? b=aa o->h2.get? b=aa o:=λb o z=>k2 b o (neB z) (H b o z);have ns2:=R.at' λo z=>k2 _ o hLe z;refine sq (Xh (lk kA (by decide+kernel) ns2 vA ?_) rfl rfl)
  show bO _ _ (fx (.Attribute (.Name tK ⟨10,8,10,12⟩) Ad ⟨10,8,10,15⟩) (Gv F l.objs.size 37) L) _ _ _;rw[DJ];refine ak (dk (lk kS (by decide+kernel) ns2 vS ?_))
  refine ak (ye (ak (dk ?_)));have f2:=X.f.keeps S;have z1:∀z,h2.Ns 83 z->z Ad=aw:=λz hz=>by rw[rN hz (T.keeps S)];exact U
  have z2:∀z,h2.Ns 46 z->z Ad=aw:=λz hz=>by rw[rN hz (W.keeps S)];exact t46
  refine sX f2 HI rfl λtk=>C' f2 z1 z2 JN.2 HI rfl rfl hd2 (Gu ny C Within.nil) (by simp) λh3 tk3 k3=>⟨rfl,?_⟩
  refine wO ?_;refine wpAny_execs_nil ?_;have ned:B≠dx:=λz=>by rw[z]at G;exact b6 (dd.symm.trans G)
  refine q h3 _ t1 dx (λb o nb z=>k3 b o (λqq=>?_) (k2 b o nb (k1 b o nb (hk b o z)))) (k3 _ _ ned HI);subst qq;exact b6 (dd.symm.trans (k1 b o nb (hk b o z)))
 ·unfold wR
  rw[O];rfl
end xo
theorem HJ:q0 prog w A E hb h g d t os e msg Q:=@d5 _ _ xn @xo.ok (((prog,w,A),E,hb,h),(g,d,t),(os,e),msg,Q)
end
section
variable{M:dZ}{A:aW}{E:ag->ah->Prop}{h:bJ}{g:Array gu}{d:ou}{t:ae}{os:eT}{env:Env}
theorem Dc(f:fX h){Q:Keeper->ah->Prop}(q:Q .machine ⟨h,g,d,t,os⟩):bO M A (Iw (.ref 84)) Q E ⟨h,g,d,t,os⟩:=by
 have hC:=f.cls;exact wpAny_keeperOf_exc hC q
theorem Fq(j:A.handled=aw)(h:bk M A x (λv a=>∃e t0 i,v=.ref e/\fX a.heap/\a.heap.get? e=aa {C9 84 t0 with dict:=aa i}/\E (.ref e) a) E s):bk M A (raiseStmt env (aa x) aw) Q E s:=by
 have c:(cX 84::MD).contains (.type "BaseException")=aq:=by decide+kernel
 unfold raiseStmt;refine aj (aI h (λv a b=>?_) λι ι x=>x);obtain⟨e,t0,i,rfl,f,he,l⟩:=b;have hC:=f.cls;obtain⟨hp,g,d,tk,os⟩:=a;refine aT ?_
 repeat (first|with_reducible refine dp he ?_|with_reducible refine dp hC ?_|(with_reducible refine ik hC ?_;rw[c])|wp_step)
 exact wpAny_raiseNew_none j l
end
section
variable{G:Gm}{K:jT}{T:Tab}{mm n:ae}{k:Kf}{σ τ:St}{r:Rec}{sc:Sc}{re:aX}{env:Env}{np YB pos:Pos}
def pK(a:Gm)(c:Kf)(j:Env)(p:Pos)(l:Pos)(m:Pos)(x:aQ)(A:aW)(E:ag->ah->Prop):Prop:=∀{K:jT}{T:Tab}{mm:ae}{n:ae}{σ:St}{τ:St}{r:Rec}{sc:Sc}{re:aX}(H:qT a K T mm)(u:HX a.w a.X)(I:gw a r n)(R:cB a c j sc re)(S:SR a c σ)(y:j.kindOf qr=aa .globalImplicit)(z:fb [x]=aq){v:V}(C:r.ev sc x re σ=aa (v,τ))(D:el A (n+1)){Q:tT->ah->Prop}(q:∀f i tk e t0 s,Le c f->SR a f τ->cB a f j sc re->(∀b o,f.h.get? b=aa o->i.get? b=aa o)->f.h.get? e=aw->i.get? e=aa {C9 84 t0 with dict:=aa s}->E (.ref e) (sh a.b ⟨f.ρ,i,tk⟩)),bk (Md a.w) A (oW (.Raise (aa (.Call (.Name qr p) [x] [] l)) aw m) j) Q E (sh a.b c)
def uZ:=λx:((_×_)×_×_)×(_×_)×_×_×_=>pK x.1.1.1 x.1.1.2 x.1.2.1 x.1.2.2 x.2.1.1 x.2.1.2 x.2.2.1 x.2.2.2.1 x.2.2.2.2
def fY:=haveI:=Am;haveI:=Cv;haveI:=eI;qy bB uZ
namespace u0
def a:=fY.1.1.1
def c:=fY.1.1.2
def j:=fY.1.2.1
def p:=fY.1.2.2
def l:=fY.2.1.1
def m:=fY.2.1.2
def x:=fY.2.2.1
def A:=fY.2.2.2.1
def E:=fY.2.2.2.2
theorem ok:pK a c j p l m x A E:=by
 intro K T mm n σ τ r sc re H Y I R S Z F v ea RA Q q;have X:=Pa Y;obtain⟨mg,mb,n1,n2,_,_,g3⟩:=X.g;rw[arm_exec_Raise];refine aj (a8 ?_);show bk _ _ (raiseStmt j (aa (do let v<-cn (.Call (.Name qr p) [x] [] l) j;ij m;pure v)) aw) _ _ _
 refine Fq RA.handled (aj ?_);rw[xT];refine aj (aT (w5 R.kind Z (loadGlobal_global (mg:=mg) (v:=.ref 84) ?_ g3 ?_) (by decide+kernel)))
 ·show c.h.Ns j.globals mg
  rw[R.glob];exact n1.keeps S.base
 refine j3 (P:=λh=>∀b o,a.X.h0.get? b=aa o->h.get? b=aa o) (by rw[(plain_any F).1];rfl) (λh kp=>⟨.machine,.inr (.inl rfl),λA Q E s e q=>?_⟩) ?_
 ·obtain⟨h',gg,d,t,os⟩:=s
  exact Dc (X.f.keeps λb o z=>e b o (kp b o z)) q
 show bk _ _ (VG _ aq (f6 l (dm [x] j)) []) _ _ _;have N:∀{O:ab ag->ah->Prop}{E' :ag->ah->Prop},(∀u y,Le c y->SR a y τ->O [u] (sh a.b y))->bk (Md a.w) A (oV (f6 l (dm [x] j))) O E' (sh a.b c):=λh=>
  mS (rest:=[]) (I.ev R v τ ea S A _ _ (RA.less (fa n)) λu y l1 S1 ru=>n7 (h u y l1 S1)) (jx F).1
 rw[(jx F).1]at N⊢;refine jr (N λu y l1 S1=>?_);refine⟨S1.base,?_⟩;show bk _ _ (call (.ref 84) [u]) _ _ (sh a.b y);have a1:=X.i.at_;have a2:=zm.cls;have C:∀b o,y.h.get? b=aa o->(BC y.h 84 [u]).get? b=aa o:=λb o e=>bf _ (bf _ e);have kb:∀b o,a.X.h0.get? b=aa o->(BC y.h 84 [u]).get? b=aa o:=λb o e=>C b o (S1.base b o e);have J:y.h.get? (y.h.objs.size+1)=aw:=cO (fa _);refine aT (HF (X.f.keeps S1.base) (S1.base _ _ a1) a2 (HJ X kb (gI (λb o e=>⟨o,S1.base b o e⟩) J) (t0:=y.h.objs.size) (by heap_get) ?_ λU L t2 W k2 HI=>?_) (by rw[bD];simp))
 ·have wt:(kD "type.__call__" ⟨[.ref 84,u],[]⟩).weight=1:=rfl
  show A.depth+(kD "type.__call__" ⟨[.ref 84,u],[]⟩).weight<_;rw[wt];exact cD (nk (VR (bj _)) A.depth) RA.depth
 refine⟨rfl,?_⟩;have D:∀b o,y.h.get? b=aa o->U.get? b=aa o:=λb o e=>k2 b o (λz=>b6 ((z▸J).symm.trans e)) (C b o e);refine aj (a8 (aO ?_));exact⟨_,t2,W,rfl,X.f.keeps λb o e=>D b o (S1.base b o e),HI,q y U L _ t2 W l1 S1 (R.mono l1) D J HI⟩
end u0
theorem Fs:pK G k env np YB pos arg A E:=@d5 _ _ uZ @u0.ok (((G,k),env,np),(YB,pos),arg,A,E)
end
section
variable{M:dZ}{A:aW}{E:ag->ah->Prop}{s:ah}{env:Env}
theorem Pb{Q:tT->ah->Prop}(h:bk M A (eY body env) (λf a=>Q f a) (λe a=>bk M A (i9 e env) (λι g=>bk M A (DC e aw) (λι i=>bk M A (handleBy e env (d::m)) Q E i) E g) E a) s):bk M A (oW (.Try body (d::m) [] [] pos) env) Q E s:=by
 rw[arm_exec_Try];refine aj (a8 ?_);unfold tryStmt;refine Cs rfl ?_;refine aj (nO (aI h (λf a c=>?_) λe a c=>?_))
 ·cases f<;>first|exact gQ c|exact aO c
 ·refine aj (aI c (λι ι j=>?_) λι ι x=>x)
  refine jq bM ?_;refine aj (aI j (λι ι l=>?_) λι ι x=>x);exact jq bM (jq bM l)
end
section
variable{G:Gm}{k kr:Kf}{σ:St}{all fs outer:ab Env}{env:Env}{e t:aB}{s' :ah}{sc:Sc}{re:aX}
variable{M:dZ}{A:aW}{E:ag->ah->Prop}{b:ah}
theorem T'{Q:jb->ah->Prop}(a:Act G kr (env::outer))(f:A.frames=aa (env::outer))(d:∀b o,kr.h.get? b=aa o->c.get? b=aa o)(g:kr.h.get? e=aw)(he:c.get? e=aa {C9 84 t0 with dict:=aa x})(q:∀s',O7 kr b (env::outer) outer e t0 s'->Q () s'):bO M A (oX env (.ref e)) Q E (sh b ⟨kr.ρ,c,tk⟩):=by
 have n:(BB kr (env::outer)).get? e=aw:=by
  induction z:(BB kr (env::outer)).get? e with
  |none=>rfl|some o=>exact b6 (g.symm.trans (of_hideAll _ z))
 refine wpAny_leaving_firstW (base:=BB kr (env::outer)) (a0:=.ref t0) f ((a.frames λι h=>h).of_keeps λb o hb ι=>⟨o,d b o hb,rfl⟩) (a env ax).1 he (λb o z=>d b o (of_hideAll _ z)) n rfl rfl rfl λh' L=>?_;obtain⟨i,⟨_,_,j⟩,l,m⟩:=L;exact q _ ⟨h',tk,rfl,(bJ.UpToSlots.of_keeps d).trans m,i,n,j,l⟩
theorem Pc(S:SR G kr σ)(a:Act G kr all)(f:O7 kr b all fs e t s')(x:aB)(o:Obj)(z:G.X.h0.get? x=aa o):s'.heap.get? x=aa o:=by
 obtain⟨h',tk,rfl,T⟩:=zi a f;exact T.keep x o (λh=>b6 ((a.off x h).1.h0.symm.trans z)) (S.base x o z)
theorem Lx(f:O7 kr b all fs e t s'):∃o,s'.heap.get? e=aa o/\o.cls=.ref 84:=by
 obtain⟨h',tk,rfl,_,g⟩:=f;exact g.there
end
section
variable{G:Gm}{k kr:Kf}{σ:St}{all outer:ab Env}{env:Env}{e t:aB}{s' :ah}{np pos p1 p2:Pos}
theorem Ua(H:HX G.w G.X)(S:SR G kr σ)(a:Act G kr all)(u:env.scope.kind=.function)(l:env.globals=dh)(x:env.kindOf qr=aa .globalImplicit)(hf:env.frame=aa L)(f:Fj kr G.b all (env::outer) L e t s'){Q:tT->ah->Prop}(q:∀c,O7 kr G.b all (env::outer) e t c->Q (.ret (.bool ai)) c):
  bk (Md G.w) A (i9 (.ref e) env) (λι h=>bk (Md G.w) A (DC (.ref e) aw) (λι i=>bk (Md G.w) A (handleBy (.ref e) env [.ExceptHandler (aa (.Name qr np)) aw [.Return (aa (.Constant (.bool ai) 0 p1)) p2] pos]) Q E i) E h) E s' :=by
 have X:=Pa H;obtain⟨mg,mb,y,N,_,_,g3⟩:=X.g;refine aT (HD hf f (aT (HE f λj m=>aT ?_)));have o:=Pc S a m;obtain⟨O,he,z⟩:=Lx m;have F:=X.f.keeps o;refine wpAny_handleBy_cons (codeAny_handlers_test (w5 u x (loadGlobal_global (mg:=mg) (v:=.ref 84) (by rw[l];exact y.keeps o) g3 ?_) (by decide+kernel))) (by intro q;cases q)
 have hC:=F.cls;have C:∀{M:dZ}{p:aW}{r:ag->ah->Prop}{n:aE->ah->Prop},n aq j->bO M p (excMatches (.ref e) (.ref 84)) n r j:=λ{M p r n}D=>by
  obtain⟨P,g,d,tk,os⟩:=j;exact wpAny_excMatches_sub_self hC he z (by decide+kernel) D
 refine C (codeAny_handlers_suite ?_);refine Lq m λI J=>?_;exact sq (wpAny_Return_some (aH (q I J)))
end
section
variable{G:Gm}{k k2 kr:Kf}{σr:St}{all fs:ab Env}{env:Env}{v:ag}{s' :ah}{sc:Sc}{re:aX}
inductive oe(G:Gm)(k:Kf)(fs:ab Env)(v:ag)(s' :ah):Prop
 |mk (e t:aB) (kr:Kf) (all:ab Env) (eq:v=.ref e) (fly:O7 kr G.b all fs e t s') (act:Act G kr all) (sb:SB G kr) (le:Le k kr) (cP:∀x∈locs all,x∈locs fs\/k.h.get? x=aw)
inductive rP(G:Gm)(k:Kf)(env:Env)(fs:ab Env)(v:ag)(s' :ah):Prop
 |mk (e t:aB) (kr:Kf) (all:ab Env) (eq:v=.ref e) (held:Fj kr G.b all (env::fs) env.locals e t s') (act:Act G kr all) (sb:SB G kr) (le:Le k kr) (cP:∀x∈locs all,x∈locs (env::fs)\/k.h.get? x=aw)
theorem oe.from(l:Le k k2)(h:oe G k2 fs v s'):oe G k fs v s' :=by
 obtain⟨e,t,kr,all,r,f,a,S,l2,d⟩:=h;exact⟨e,t,kr,all,r,f,a,S,l.trans l2,λx b=>(d x b).imp id λz=>gI l.live z⟩
theorem rP.from(l:Le k k2)(h:rP G k2 env fs v s'):rP G k env fs v s' :=by
 obtain⟨e,t,kr,all,r,f,a,S,l2,d⟩:=h;exact⟨e,t,kr,all,r,f,a,S,l.trans l2,λx b=>(d x b).imp id λz=>gI l.live z⟩
variable{M:dZ}{A:aW}{E:ag->ah->Prop}
theorem Ly(t:Act G k fs)(i:A.frames=aa fs)(l:Le k kr)(S:SR G kr σr)(R:cB G kr env sc re)(hf:env.frame=aa env.locals)(L:k.h.get? env.locals=aw)(j:∀b o,kr.h.get? b=aa o->c.get? b=aa o)(m:kr.h.get? e=aw)(he:c.get? e=aa {C9 84 t0 with dict:=aa g}){Q:ag->ah->Prop}(q:∀s',oe G k fs (.ref e) s'->Q (.ref e) s'):
  bk M (A.deeper env) (oX env (.ref e)) (λι s=>Q (.ref e) s) n (sh G.b ⟨kr.ρ,c,tk⟩):=by
 have a:Act G kr (env::fs):=(t.mono l).cons hf R;refine aT (T' a (iT i) j m he λs f=>q s ⟨e,t0,kr,_,rfl,f,a,SB.of S,l,λx d=>?_⟩);rcases aG.mp (show x∈env.locals::locs fs from d) with rfl|d
 ·exact .inr L
 ·exact .inl d
theorem HK(b:A.frames=aa (env::fs))(hf:env.frame=aa env.locals)(h:oe G k (env::fs) v s')(q:∀s,rP G k env fs v s->E v s):lE M (A.mark aw) env (gJ M A env E) v s' :=by
 obtain⟨e,t,kr,all,rfl,f,a,S,l,d⟩:=h;refine aT (Lp (show(A.mark aw).frames=aa (env::fs) from b) hf f λj c=>?_)
 exact Lr hf c λg i=>q g ⟨e,t,kr,all,rfl,i,a,S,l,d⟩
theorem Ft(hf:env.frame=aa env.locals)(L:k.h.get? env.locals=aw)(h:rP G k env fs v s'){Q:ag->ah->Prop}(q:∀s,oe G k fs v s->Q v s):bk M (A.deeper env) (oX env v) (λι s=>Q v s) b s' :=by
 obtain⟨e,t,kr,all,rfl,f,a,S,l,d⟩:=h;refine aT (Fm hf f λc g=>q c ⟨e,t,kr,all,rfl,g,a,S,l,λx i=>?_⟩);rcases d x i with h|h
 ·rcases aG.mp (show x∈env.locals::locs fs from h) with rfl|h
  ·exact .inr L
  ·exact .inl h
 ·exact .inr h
end
section
variable{G:Gm}{K:jT}{T:Tab}{mm n:ae}{k:Kf}{σ:St}{r:Rec}{sc:Sc}{re:aX}{fs:ab Env}
theorem Fu(H:qT G K T mm)(hf:T.fn j=aa f)(c:hI f.params as f.lz=aa re)(u:pj G k as us)(S:SR G k σ)(l:A.frames=aa fs)(RA:el A (n+1))(body:∀{o:Obj}{d:gU}{k₁:Kf}{env:Env},FnAt G j f o d->env=cW d k.h.objs.size (G.X.jV j)->Le k k₁->SR G k₁ σ->cB G k₁ env f.sc re->env.frame=aa env.locals->(∀x∈cy env,k.h.get? x=aw)->el (A.deeper env) n->(A.deeper env).frames=aa (env::fs)->
   bk (Md G.w) (A.deeper env) (eY f.body env) (λι ι=>jD) (λv s=>bk (Md G.w) (A.deeper env) (oX env v) (λι i=>oe G k fs v i) (λι ι=>jD) s) (sh G.b k₁)):
  dg (Md G.w) A (.call (.ref (G.X.jV j)) ⟨us,[]⟩) (λx s=>match x with|.error e=>oe G k fs e s|.ok _=>jD) (sh G.b k):=by
 refine uJ H hf c u S RA.top λ{o d k₁}F g a R cP=>?_;have RD:el (A.deeper (cW d k.h.objs.size (G.X.jV j))) n:=RA.deep _;exact aI (body F rfl g a R rfl cP RD (iT l)) (λι ι h=>h.elim) λv s h=>aI h (λι ι h=>h) λι ι h=>h.elim
theorem wh(H:qT G K T mm)(I:oF G r n)(U:Bj G T r n)(c:8<=n)(R:cB G k env sc re)(e:x3 T r sc p re σ=aa ((.next,re1),σ1))(S:SR G k σ)(d:el A n)(h:∀k',bY k.ρ k.h k'.ρ k'.h (cy env)->SR G k' σ1->cB G k' env sc re1->bk (Md G.w) A (eY rest env) (λι ι=>jD) E (sh G.b k')):bk (Md G.w) A (eY (p++rest) env) (λι ι=>jD) E (sh G.b k):=
 sP (uM H I U c R _ _ e S A _ E d λf k' g i a=>by
  obtain⟨j,a⟩:=a;have a:f=.next:=a;subst a;exact h k' g i j)
theorem oN(I:gw G r n)(R:cB G k env sc re)(e:r.tr sc c re σ=aa (t,σ1))(S:SR G k σ)(d:el A n)(h:∀k',Le k k'->SR G k' σ1->cB G k' env sc re->bk (Md G.w) A (eY (if t then a else b) env) (λι ι=>jD) E (sh G.b k')):bk (Md G.w) A (eY (.If c a b pos::rest) env) (λι ι=>jD) E (sh G.b k):=
 ek (NB (I.tr R t σ1 e S A _ E d λi k' l f g=>by
  cases g
  have:=h k' l f (R.mono l)
  induction t with
  |true=>exact wb this λι ι e=>e|false=>exact wb this λι ι e=>e))
end
section
variable{G:Gm}{lab:ab ae}{as Dd:ab V}{us:ab ag}{k:Kf}{σ:St}{mu:ab MO}{t0:TR}{ρ ρ1:fO}{h1:bJ}
set_option tactic.hygienic true in
theorem Pd(p:lab.Nodup)(q:qp (cT (dW lab) eA) as=aa Dd)(r:i6 (mapM (dW lab) eA) σ.t lab=aa mu)(d:qX mu .nil 0=aa t0)(u:pj G k as us)(S:SR G k σ):
  (∀i∈lab,i<σ.n)/\eP mu=lab.length/\h5 (wf G.X (y9 k.ρ G.X.fv)) G.w.params (sel k.ρ lab) ⟨t0,eP mu⟩ k.h/\gi (wf G.X (y9 k.ρ G.X.fv)) (sel k.ρ lab) k.h (cu Dd) us:=by
 refine ck λf=>?_;obtain⟨m,g⟩:=oJ r;have val:∀i∈lab,i<σ.n:=λi j=>by
  obtain⟨x,s,e⟩:=dV j;refine ck λf=>?_;obtain⟨o,_,e1,_⟩:=g x i (by rw[az s,e])
  obtain⟨v,hp,_⟩:=S.objs i o e1;refine f ?_;exact S.len▸(aV.mp hp).1
 have l:eP mu=lab.length:=by rw[uT,m]
 refine f ?_;refine⟨val,l,S.select p val l λi o' e=>?_,Bv (E_ (S.len▸val)) q u⟩;have:=y' d i;simp only[e]at this
 split at this
 ·rename_i c
  have j:i<lab.length:=by refine m▸?_;lia
  refine ck λf=>?_;obtain⟨o,y,a,b,c⟩:=g i _ (az j);simp only[IE,c]at this;obtain rfl:=af this;refine f ?_;exact⟨_,o,az j,a,b⟩
 ·exact soN this
theorem aa8(f:(dG lab aq λι r=>r7 (bH 0) r)=aq)(val:∀i∈lab,i<ρ.length)(w:yq (sel ρ lab) b):yq ρ b:=by
 obtain w|⟨p,hp,z⟩:=w
 ·exact .inl w
 obtain⟨x,c⟩:=ab.mem_iff_getElem?.mp hp
 replace c:=nY▸c
 have h:1+x<lab.length:=by exact(show(sel ρ lab).length=lab.length from b9 ..)▸(aV.mp c).1
 have d:=az h;have l:=x' (ρ:=ρ) (val _ (aA d));clear hp
 cases (n_ d l).symm.trans c
 have pos:0<lab[1+x]:=by
  induction lab using a6 with
  |nil=>exact er h (e_ _)|cons a r=>
   rw[(by simp[nM 1 x]:(a::r)[1+x]=r[x]'(by simpa[nM] using h))]
   exact blt (uL f _ (lW _))
 have:=I8 pos l;exact z.elim (λe=>e▸this.1) λe=>e▸this.2
theorem YC(S:SR G k σ)(val:∀i∈lab,i<k.ρ.length)(l:bY (sel k.ρ lab) k.h ρ1 h1 [])(hp:k.ρ[i]? =aa p)(n:i∉lab):(∀x,k.h.get? p.1=aa x->h1.get? p.1=aa x)/\∀x,k.h.get? p.2=aa x->h1.get? p.2=aa x:=by
 have a:∀q∈sel k.ρ lab,q.1≠p.1/\q.1≠p.2/\q.2≠p.1/\q.2≠p.2:=λq b=>by
  refine ck λc=>?_;obtain⟨i',j,e1,e2⟩:=lh val b;refine c ?_;exact hO S.apart e2 hp λz=>n (z▸aA e1)
 refine⟨λx e=>l.keep _ x e (λz=>z.elim (S.x4 _ (aA hp)).1.1 λ⟨q,b,z⟩=>?_) (λz=>sr z),λx e=>l.keep _ x e (λz=>z.elim (S.x4 _ (aA hp)).1.2 λ⟨q,b,z⟩=>?_) (λz=>sr z)⟩
 ·exact z.elim (λz=>(a q b).1 z.symm) λz=>(a q b).2.2.1 z.symm
 ·exact z.elim (λz=>(a q b).2.1 z.symm) λz=>(a q b).2.2.2 z.symm
theorem Pe(S:SR G k σ)(val:∀i∈lab,i<k.ρ.length)(l:bY (sel k.ρ lab) k.h ρ1 h1 [])(nt:∀p∈ρ1,∀us,¬h1.IsTuple p.1 us/\¬h1.IsTuple p.2 us)(n:∀p∈ρ1,(p.1≠t5/\p.2≠t5)/\NC h1 p)(hp:p∈k.ρ):
  ((G.X.h0.get? p.1=aw/\G.X.h0.get? p.2=aw)/\((∃o,h1.get? p.1=aa o)/\∃o,h1.get? p.2=aa o))/\(∀us,¬h1.IsTuple p.1 us/\¬h1.IsTuple p.2 us)/\(p.1≠t5/\p.2≠t5)/\NC h1 p:=by
 have a:=S.above p hp;refine⟨⟨a.1,a.2.1.elim λι e=>l.live _ _ e,a.2.2.elim λι e=>l.live _ _ e⟩,?_⟩;refine ck λd=>?_;obtain⟨i,b,rfl⟩:=dV hp;have b:=az b;refine d ?_
 by_cases c:i∈lab
 ·obtain⟨x,g,e⟩:=dV c
  have:(sel k.ρ lab)[x]? =_:=n_ (by simp only[az g,e]) b
  have m:=aA (l.get this);exact⟨λus=>nt _ m us,n _ m⟩
 ·have f:=YC S val l b c
  exact⟨λus=>⟨λt=>(S.nt _ hp us).1 (jm a.2.1 f.1 t),λt=>(S.nt _ hp us).2 (jm a.2.2 f.2 t)⟩,(S.x4 _ hp).1,(S.x4 _ hp).2.same a.2 f⟩
end
def zq(G:Gm)(f:ab ae)(F:OF)(s:ab V)(k:Kf)(g:St):Prop:=∀{n:ae}(H:HX G.w G.X){j:ae}{us:ab ag}(h:∀Dd mu v ups nw,qp (cT (dW f) eA) s=aa Dd->i6 (mapM (dW f) eA) g.t f=aa mu->F Dd mu=aa (v,ups,nw)->∃ks b a t0,qX mu .nil 0=aa t0/\Good n j Dd ⟨t0,eP mu⟩ b a/\p6 (eP mu) ks (aa (b,a))=aa (v,d6 ups mu,nw))(r:pj G k s us),Hc G n k g (j_ f F s) (.call (.ref (G.X.jV j)) ⟨us,[]⟩)
def Fv:=λx:(_×_×_)×_×_×_=>zq x.1.1 x.1.2.1 x.1.2.2 x.2.1 x.2.2.1 x.2.2.2
def oO:=haveI:=Am;haveI:=Cv;haveI:=Gw;qy bB Fv
namespace Fw
def G:=oO.1.1
def f:=oO.1.2.1
def F:=oO.1.2.2
def s:=oO.2.1
def k:=oO.2.2.1
def g:=oO.2.2.2
set_option tactic.hygienic true in
theorem ok:zq G f F s k g:=by
 intro n H j us hF ru;exactλv τ e S A Q RA q=>by
  unfold j_ at e
  induction h0:(dG f aq λι r=>r7 (bH 0) r) with
  |false=>rw[h0]at e;exact b6 e|true=>
  rw[h0]at e
  replace e:cS (Aj f) _ aw=aa (v,τ):=e
  induction U:Aj f with
  |false=>simp only[U]at e;exact b6 e|true=>
  simp only[U]at e
  induction Z:dI (qp (cT (dW f) eA) s) (i6 (mapM (dW f) eA) g.t f) dE with
  |none=>simp only[Z]at e;exact b6 e|some p=>
  rw[Z]at e;refine ck λC=>?_;obtain⟨Dd,mu,ha,hg,rfl⟩:=dO (o:=qp (cT (dW f) eA) s) (p:=i6 (mapM (dW f) eA) g.t f) Z;dsimp only at e;refine C ?_
  induction hf:F Dd mu with
  |none=>simp only[hf]at e;exact b6 e|some z=>
  rw[hf]at e;refine ck λC=>?_;obtain⟨v1,ups,I⟩:=z;dsimp only at e;refine C ?_
  induction hu:dI (cT (Bt (ji f) g.n (eP I) f) (Ac g.n) v1) (dI (Lk (mapM (Bt (ji f) g.n (eP I) f) (Ac g.n)) f ups) (Ll (mapM (Bt (ji f) g.n (eP I) f) (Ac g.n)) I) dE) dE with
  |none=>simp only[hu]at e;exact b6 e|some y=>
  rw[hu]at e;refine ck λC=>?_;obtain⟨v2,y2,hv,hy,rfl⟩:=dO (o:=cT (Bt (ji f) g.n (eP I) f) (Ac g.n) v1) hu;obtain⟨adt,nw2,hus,hns,rfl⟩:=dO (o:=Lk (mapM (Bt (ji f) g.n (eP I) f) (Ac g.n)) f ups) hy;obtain⟨t2,ht,e⟩:=fI (o:=qX nw2 (Fb g.t adt) g.n) e
  cases e
  refine C ?_;have U:=mN U;refine ck λC=>?_;obtain⟨hml,hmg⟩:=oJ hg;obtain⟨ks,v0,τ0,t0,adu,good,J⟩:=hF _ _ _ _ _ ha hg hf;obtain⟨val,M,S',ru'⟩:=Pd U ha hg adu ru S;have E:∀i∈f,i<k.ρ.length:=S.len▸val;unfold p6 at J;refine C ?_
  induction N:r7 (cf (eP mu)) ks with
  |false=>rw[N]at J;exact b6 J|true=>
  induction O:Aj ks with
  |false=>rw[N,O]at J;exact b6 J|true=>
  simp only[N,O]at J;have ndk:=mN O;have gek:=λx W=>ble (uL N x W);refine ck λC=>?_;obtain⟨w1,w2,g1,g2,gE⟩:=dO (o:=cT (iP (eP mu) ks) j9 v0) J
  cases gE
  obtain⟨w3,w4,g2,g3,gE⟩:=dO (o:=i6 (mapM (iP (eP mu) ks) j9) τ0.t (bh (eP mu))) g2
  cases gE
  have hll:ji f=f.length:=fU f;rw[hll]at hv hus hns;refine C ?_;refine good {G with X:=wf G.X (y9 k.ρ G.X.fv)} (H.wf _) _ ⟨sel k.ρ f,k.h,k.tk⟩ ru' S' A Q RA λu D l S1 r1=>?_
  have l:bY (sel k.ρ f) k.h D.ρ D.h []:=l;have S1:h5 (wf G.X (y9 k.ρ G.X.fv)) G.w.params D.ρ τ0 D.h:=S1;have r1:Rep (wf G.X (y9 k.ρ G.X.fv)) D.ρ D.h v0 u []:=r1;refine ck λC=>?_;obtain⟨qn,hq,hqd⟩:=l.pre;have hsl:(sel k.ρ f).length=f.length:=b9 ..;have htk:D.ρ.take (eP mu)=sel k.ρ f:=by simp only[hq,M,<-hsl,ab.take_left]
  obtain⟨h3l,h3g⟩:=oJ g3;have Y:∀i∈ks,i<D.ρ.length:=λi Z=>by
   refine ck λC=>?_;obtain⟨x,W,e⟩:=dV Z;obtain⟨o,_,e1,_⟩:=h3g x i (by rw[az W,e])
   obtain⟨pr,hp,_⟩:=S1.objs i o e1;refine C ?_;exact(aV.mp hp).1
  have T1:=OZ (X:=wf G.X (y9 k.ρ G.X.fv)) (h:=D.h) (m:=eP mu) (ks:=ks) (ρs:=D.ρ) (by simp only[hq,M,<-hsl,bV];lia) Y
  rw[htk]at T1;refine C ?_;have hnl:(sel D.ρ ks).length=eP I:=by simp only[uT,h3l];exact b9 ..
  have T2:=TQ (X:=G.X) S val (nw:=sel D.ρ ks) (h' :=D.h) M hnl (λb o e n=>l.keep b o e n (λz=>sr z));rw[M]at T2;have cP:∀p∈sel D.ρ ks,k.h.get? p.1=aw/\k.h.get? p.2=aw:=λp hp=>by
   refine ck λC=>?_;obtain⟨i,x,e1,e2⟩:=lh Y hp;have hge:=gek i (aA e1);rw[hq,d7 (by lia)]at e2
   refine C ?_;exact hqd p (aA e2)
  have G2:bY k.ρ k.h (k.ρ++sel D.ρ ks) D.h []:=⟨⟨_,rfl,cP⟩,λb o e n nx=>l.mq b o e (λz=>n (aa8 h0 E z)) nx,l.live⟩;have r2:Rep G.X (k.ρ++sel D.ρ ks) D.h v2 u []:=Rep.turn (X:=wf G.X (y9 k.ρ G.X.fv)) T2 hv (Rep.turn T1 g1 r1);have old:=λ{p:aB×aB}(hp:p∈k.ρ)=>Pe S E l S1.nt S1.x4 hp;refine q u ⟨k.ρ++sel D.ρ ks,D.h,D.tk⟩ G2 ?_ r2;obtain⟨hN1,hN2⟩:=C5 hns;refine⟨S1.base,?_,λp hp=>?_,?_,λp hp us=>?_,λi o e=>?_,S1.pl,λp hp=>?_⟩
  ·show(k.ρ++sel D.ρ ks).length=g.n+eP nw2
   simp only[bV,S.len,hnl,uT,uT,hN1]
  ·rcases bE.mp hp with hp|hp
   ·exact(old hp).1
   ·refine ck λC=>?_
    obtain⟨i,x,e1,e2⟩:=lh Y hp;refine C ?_;exact S1.above p (aA e2)
  ·rw[Kb]
   refine⟨S.apart,Bu Y ndk S1.apart,λp hp p' L=>?_⟩;refine ck λC=>?_;obtain⟨_,⟨o1,e1⟩,o2,e2⟩:=S.above p hp;have d:=cP p' L;have no:∀{a b:aB}{o:Obj},k.h.get? b=aw->k.h.get? a=aa o->a≠b:=λd e z=>b6 ((z▸d).symm.trans e);refine C ?_;exact⟨no d.1 e1,no d.2 e1,no d.1 e2,no d.2 e2⟩
  ·rcases bE.mp hp with hp|hp
   ·exact(old hp).2.1 us
   ·refine ck λC=>?_
    obtain⟨i,x,e1,e2⟩:=lh Y hp;refine C ?_;exact S1.nt p (aA e2) us
  ·have e:t2.get i=aa o:=e
   rw[y' ht i]at e
   split at e
   ·rename_i c
    obtain⟨o1,e1,e2⟩:=hN2 _ _ e;have hj:i - g.n<ks.length:=by rw[<-h3l];exact(aV.mp e1).1
    refine ck λC=>?_;obtain⟨o3,o4,a,b',c'⟩:=h3g (i - g.n) _ (az hj);rw[e1]at c'
    cases c'
    obtain⟨p,hp,ro⟩:=S1.objs _ _ a;refine C ?_;refine⟨p,?_,ia.turn (X:=wf G.X (y9 k.ρ G.X.fv)) T2 (λι e=>e) (λι e=>e) e2 (ro.turn T1 (λι e=>e) (λι e=>e) b')⟩;rw[d7 (by rw[S.len];lia),S.len]
    exact n_ (az hj) hp
   ·rcases(C6 (mu:=mu) U hml (λx y e=>by obtain⟨o,_,e1,_⟩:=hmg x y e;rw[e1];rfl) hus).2 i o e with⟨a,b'⟩|⟨x,o1,a,b',c'⟩
    ·obtain⟨p,hp,ro⟩:=S.objs i o a
     refine⟨p,G2.get hp,?_⟩
     by_cases c:i∈f
     ·refine ck λC=>?_
      obtain⟨x,W,e⟩:=dV c;have P:f[x]? =aa i:=by rw[az W,e]
      obtain⟨o2,o3,d1,d2,d3⟩:=hmg x i P
      cases a.symm.trans d1
      have d4:=(b' x P).trans d3;refine C ?_;have R:x<eP mu:=by rw[M];exact W
      refine ck λC=>?_;obtain⟨o5,o6,f1,f2,f3⟩:=(oJ g2).2 x x ((rK _).2 x R)
      cases d4.symm.trans f3
      obtain⟨p',L,T⟩:=S1.objs x o5 f1;have:(sel k.ρ f)[x]? =aa p:=n_ P hp;simp only[hq,ct (aV.mp this).1,this]at L
      cases L
      refine C ?_;exact ia.untouched S val T2 ro d2 (T.turn T1 (λι e=>e) (λι e=>e) f2)
     ·exact ro.mono G2 NT.nil (YC S E l hp c).1 (YC S E l hp c).2
    ·have R:x<eP mu:=by rw[M];exact(aV.mp a).1
     refine ck λC=>?_;obtain⟨o5,o6,f1,f2,f3⟩:=(oJ g2).2 x x ((rK _).2 x R)
     cases b'.symm.trans f3
     obtain⟨p',L,T⟩:=S1.objs x o5 f1;have hil:i<k.ρ.length:=E i (aA a);have hpi:=az hil;have:(sel k.ρ f)[x]? =_:=n_ a hpi;simp only[hq,ct (aV.mp this).1,this]at L
     cases L
     refine C ?_;exact⟨_,G2.get hpi,ia.turn (X:=wf G.X (y9 k.ρ G.X.fv)) T2 (λι e=>e) (λι e=>e) c' (T.turn T1 (λι e=>e) (λι e=>e) f2)⟩
  ·rcases bE.mp hp with hp|hp
   ·exact(old hp).2.2
   ·refine ck λC=>?_
    obtain⟨i,x,e1,e2⟩:=lh Y hp;refine C ?_;exact S1.x4 p (aA e2)
end Fw
theorem De:zq G lab F as k σ:=@d5 _ _ Fv @Fw.ok ((G,lab,F),as,k,σ)
theorem Fx:p6 m ks aw=aw:=by
 unfold p6
 induction r7 (cf m) ks with
 |false=>rfl|true=>rcases Aj ks<;>rfl
theorem BE(hb:n<=b/\8<=b)(g:dH n o){F:OF}(c:∀Dd mu v ups nw,qp (cT (dW lab) eA) as=aa Dd->i6 (mapM (dW lab) eA) σ.t lab=aa mu->F Dd mu=aa (v,ups,nw)->∃ks,p6 (eP mu) ks (lM (gh o) N j Dd mu)=aa (v,d6 ups mu,nw))(e:j_ lab F as σ=aa (v,τ)):Good (b+2*N+1) j as σ v τ:=λG H us k u S A Q R q=>De (G:=G) (k:=k) (σ:=σ) H (λDd mu v1 ups nw h1 d f=>by
  obtain⟨ks,e⟩:=c Dd mu v1 ups nw h1 d f
  induction h:qX mu .nil 0 with
  |none=>rw[show lM (gh o) N j Dd mu=aw by unfold lM;rw[h]]at e;exact b6 (Fx.symm.trans e)|some t0=>
   have a:lM (gh o) N j Dd mu=d' (gh o) (bg (gh o) N) j Dd ⟨t0,eP mu⟩:=by unfold lM;rw[h]
   induction r:d' (gh o) (bg (gh o) N) j Dd ⟨t0,eP mu⟩ with
   |none=>rw[a,r]at e;exact b6 (Fx.symm.trans e)|some p=>exact⟨ks,p.1,p.2,t0,rfl,kc hb g r,by rw[a,r]at e;exact e⟩) u v τ e S A Q R q
theorem kR{n:ae}{lab:ab ae}{j:ae}{as as0:ab V}{σ τ:St}{mu0:ab MO}{b v c:V}{a:St}{t0:TR}{ups:ab (ae×MO)}{nw:ab MO}{ks:ab ae}(e1:dI (qp (cT (dW lab) eA) as) (i6 (mapM (dW lab) eA) σ.t lab) dE=aa (as0,mu0))(h:qX mu0 .nil 0=aa t0)(good:Good n j as0 ⟨t0,eP mu0⟩ b a)(e2:p6 (eP mu0) ks (aa (b,a))=aa (v,d6 ups mu0,nw))(e3:j_ lab (λι ι=>aa (v,ups,nw)) as σ=aa (c,τ)):Good n j as σ c τ:=λG H us k r S A Q R q=>
 De (G:=G) (n:=n) (k:=k) (σ:=σ) H (lab:=lab) (F:=λι ι=>aa (v,ups,nw)) (λDd mu v1 Ub w h1 d e=>by
  simp only[h1,d]at e1;refine ck λf=>?_;obtain⟨rfl,rfl⟩:=av (af e1)
  cases e
  refine f ?_;exact⟨ks,b,a,t0,h,good,e2⟩) r c τ e3 S A Q R q
noncomputable def ME(c:V)(s d:ae):MO:=.inst 8 [(25607876935081226873,c),(6231259749,.int (.ofNat s)),(103698667306054245,.none),(1603958564709,.str [100,105,115,112,108,97,121]),(6231254894,.str [116,114,97,105,108,105,110,103]),(436967053782273994518525029,.bool ai),(111863565603395232715042809188,.bool ai),(28637072756522928292057112212079,.bool ai),(391878846018675,.int (.ofNat d)),(1595100195941,.int 0),(6667588100942841406820,.bool ai)]
noncomputable def it(name:V)(cond k:ae)(p:V)(off s ME:ae):MO:=.inst 12 [(1565070353772,.int 5),(6146846053,name),(114017890487881576109679409268,.none),(1603958564709,.str []),(6231254894,.str []),(436967053782273994518525029,.bool ai),(403947637797491,.none),(6832601383258565797235,.str []),(1607952266597,.none),(111863565603395232715042809188,.bool ai),(28637072756522928292057112212079,.bool ai),(1678495644609696360263283,.a4 cond),(6097036403,.a4 k),(405038810099316,p),(104257266138310003,.none),(5945520997,.str []),(403960572896628,.int (.ofNat off)),(6231259749,.int (.ofNat s)),(1595184083045,.a4 ME)]
noncomputable def fs(name p o acc key ua:V)(is:V):MO:=.inst 16 [(6146846053,name),(6180402280,p),(113719304348907643446904844142,o),(388554473960307,acc),(23815545,.str []),(1668996004048644846413171,.tup .nil),(114632066954981444005042808185,key),(408418665133427,ua),(101739320388317812,is),(104257219128878195,.tup .nil)]
def adv(w:ae):MO:=.jv (Gx 13 [32]++(Gx w [48]++[32,32]))
def Pf(acc:V)(w:ae)(key ua:V):ab MO:=[
 .inst 13 [(105675653485522535,(.a4 1)),(102572814491543397,(.a4 2)),(1539367003507,(.a4 3)),(1595302638707,(.a4 4)),(6231259749,(.int (.ofNat (15+w)))),(101733844070720883,(.a4 5))],
 .list (.cons (.a4 36) (.cons (.a4 40) .nil)),
 .list .nil,
 .dict (.cons (.cons (.str [79,78,69]) (.a4 11)) (.cons (.cons (.str [84,87,79]) (.a4 16)) (.cons (.cons (.str [71,79,65,76]) (.a4 21)) (.cons (.cons (.str [87,79,82,75]) (.a4 34)) .nil)))) 4,
 .list (.cons (.str [87,79,82,75]) .nil),
 .dict .nil 0,
 .dict (.cons (.cons (.str [79,78,69]) (.a4 43)) (.cons (.cons (.str [84,87,79]) (.a4 44)) (.cons (.cons (.str [71,79,65,76]) (.a4 45)) (.cons (.cons (.str [87,79,82,75]) (.a4 46)) .nil)))) 4,
 ME (.str [97,108,112,104,97,110,117,109,101,114,105,99]) 3 0,
 it (.str [79,78,69,45,82,69,67]) 9 10 .none 0 3 7,
 .list .nil,
 .list .nil,
 .list (.cons (.a4 8) .nil),
 ME (.str [97,108,112,104,97,110,117,109,101,114,105,99]) 3 0,
 it (.str [84,87,79,45,82,69,67]) 14 15 .none 3 3 12,
 .list .nil,
 .list .nil,
 .list (.cons (.a4 13) .nil),
 ME (.str [97,108,112,104,97,110,117,109,101,114,105,99]) 4 0,
 it (.str [71,79,65,76,45,82,69,67]) 19 20 .none 6 4 17,
 .list .nil,
 .list .nil,
 .list (.cons (.a4 18) .nil),
 ME (.str [97,108,112,104,97,110,117,109,101,114,105,99]) 1 0,
 it (.str [76,69,84,84,69,82]) 24 25 (.a4 31) 10 1 22,
 .list .nil,
 .list .nil,
 ME (.str [97,108,112,104,97,110,117,109,101,114,105,99]) 2 0,
 it (.str [77,65,82,75]) 28 29 (.a4 31) 11 2 26,
 .list .nil,
 .list .nil,
 ME (.str [103,114,111,117,112]) 3 0,
 it (.str [87,79,82,75,45,82,69,67]) 32 33 .none 10 3 30,
 .list .nil,
 .list (.cons (.a4 23) (.cons (.a4 27) .nil)),
 .list (.cons (.a4 31) .nil),
 ME (.str [110,117,109,101,114,105,99]) w w,
 it (.str [78,85,77,66,69,82]) 37 38 .none 13 w 35,
 .list .nil,
 .list .nil,
 ME (.str [97,108,112,104,97,110,117,109,101,114,105,99]) 2 0,
 it (.str [83,84,65,84,69]) 41 42 .none (13+w) 2 39,
 .list .nil,
 .list .nil,
 fs (.str [79,78,69]) (.str [111,110,101]) (.str [115,101,113,117,101,110,116,105,97,108]) (.str [115,101,113,117,101,110,116,105,97,108]) (.str []) (.str []) (.bool ai),
 fs (.str [84,87,79]) (.str [116,119,111]) (.str [115,101,113,117,101,110,116,105,97,108]) (.str [115,101,113,117,101,110,116,105,97,108]) (.str []) (.str []) (.bool ai),
 fs (.str [71,79,65,76]) (.str [103,111,97,108]) (.str [114,101,108,97,116,105,118,101]) acc key ua (.bool ai),
 fs (.str [87,79,82,75]) (.str [119,111,114,107]) (.str [115,101,113,117,101,110,116,105,97,108]) (.str [115,101,113,117,101,110,116,105,97,108]) (.str []) (.str []) (.bool aq),
 .inst 17 [(6146846053,(.str [80])),(5979075681,(.a4 0)),(1539367003507,(.a4 6)),(1739941820890875373446515,.none),(1706902551032123882037612,(.bool ai))],
 .inst 11 [(1539367003507,(.a4 49))],
 .dict .nil 0,
 .inst 14 [(103708614232007021,(.a4 47)),(1595184344166,(.a4 48)),(6214874995,(.a4 51)),(6870217698016752531315,(.a4 52)),(401757371855481,(.a4 53)),(101733844070720883,(.a4 54)),(1565136939891,(.a4 55)),(101438118374958451,(.a4 56)),(1735181843433596808095859,(.a4 57)),(26476773734033289079,(.eN [])),(1595302638707,(.a4 58))],
 .list .nil,
 .list .nil,
 adv w,
 .dict .nil 0,
 .dict .nil 0,
 .dict .nil 0,
 .list .nil,
 .dict .nil 0]
noncomputable def mq(b:ae):ab ae:=[b+0,b+1,b+2,b+3,b+4,b+5,b+6,b+7,b+9,b+10,b+11,b+12,b+13,b+15,b+16,b+17,b+18,b+19,b+21,b+22,b+23,b+24,b+25,b+27,b+28,b+29,b+30,b+32,b+33,b+34,b+36,b+37,b+38,b+39,b+40,b+41,b+43,b+44,b+45,b+46,b+48,b+49,b+50,b+51,b+52,b+53,b+54,b+55,b+56,b+57,b+59,b+60,b+61,b+89,b+90,b+92,b+93,b+94,b+95]
set_option backward.match.sparseCases false in
noncomputable def aeK:V->aE
 |.bool x=>x|_=>ai
set_option backward.match.sparseCases false in
noncomputable def aeL:V->Int
 |.int x=>x|_=>0
set_option backward.match.sparseCases false in
noncomputable def aeG:V->ab ae
 |.str x=>x|.eN x=>x|_=>[]
set_option backward.match.sparseCases false in
noncomputable def aeH:V->V
 |.cons x a=>x|.tup x=>x|x=>x
set_option backward.match.sparseCases false in
noncomputable def aeM:V->V
 |.cons a x=>x|x=>x
set_option backward.match.sparseCases false in
noncomputable def aeD:V->ae
 |.a4 x=>x|.fn x=>x|.cls x=>x|.bi x=>x|.gH x=>x|_=>0
noncomputable def isK(k:ae)(b:V)(c:aE):aE:=cS (au b.ctorIdx k) c ai
noncomputable def Wv(a:V):V->aE:=@V.rec (λι=>V->aE) (λb=>isK 0 b aq) (λx b=>isK 1 b (Gy x (aeK b))) (λx b=>isK 2 b (Z4 x (aeL b))) (λx b=>isK 3 b (sEq x (aeG b))) (λx b=>isK 4 b (sEq x (aeG b))) (λb=>isK 5 b aq)
 (λι ι h y b=>isK 6 b (cS (h (aeH b)) (y (aeM b)) ai)) (λι h b=>isK 7 b (h (aeH b))) (λx b=>isK 8 b (au x (aeD b))) (λx b=>isK 9 b (au x (aeD b))) (λx b=>isK 10 b (au x (aeD b))) (λx b=>isK 11 b (au x (aeD b))) (λx b=>isK 12 b (au x (aeD b))) a
def eqE(a:aX):aX->aE:=@cg (ae×V) (λι=>aX->aE) (λb=>dG b aq λι ι=>ai) (λp ι i b=>dG b ai λq r=>cS (au p.1 q.1) (cS (Wv p.2 q.2) (i r) ai) ai) a
def aa9(a b:MO):aE:=MO.casesOn a (λl=>MO.casesOn b (λk=>Wv l k) (λι ι=>ai) (λι ι=>ai) (λι=>ai) (λι=>ai))
 (λl e=>MO.casesOn b (λι=>ai) (λk f=>cS (au e f) (Wv l k) ai) (λι ι=>ai) (λι=>ai) (λι=>ai))
 (λc as=>MO.casesOn b (λι=>ai) (λι ι=>ai) (λd s=>cS (au c d) (eqE as s) ai) (λι=>ai) (λι=>ai)) (λι=>ai) (λι=>ai)
def HL(a:ab MO):ab MO->aE:=@cg MO (λι=>ab MO->aE) (λb=>dG b aq λι ι=>ai) (λp ι i b=>dG b ai λq r=>cS (aa9 p q) (i r) ai) a
theorem Pg(h:sEq a b=aq):a=b:=by rw[sEq_iff]at h;exact eH h
theorem hP(h:isK k b c=aq):b.ctorIdx=k/\c=aq:=⟨ay (rQ h).1,(rQ h).2⟩
theorem Df:∀{b:V},Wv a b=aq->a=b:=by
 induction a with
 |none=>exactλ{b}h=>V.none.elim (motive:=λb=>V.none=b) b (hP h).1 rfl|bool x=>exactλ{b}h=>V.bool.elim (motive:=λb=>Gy x (aeK b)=aq->V.bool x=b) b (hP h).1 (λy e=>aY V.bool (by rcases x<;>rcases y<;>first|rfl|exact fT e)) (hP h).2
 |int x=>exactλ{b}h=>V.int.elim (motive:=λb=>Z4 x (aeL b)=aq->V.int x=b) b (hP h).1 (λy e=>aY V.int (gd ((Je x y).symm.trans e))) (hP h).2|str x=>exactλ{b}h=>V.str.elim (motive:=λb=>sEq x (aeG b)=aq->V.str x=b) b (hP h).1 (λy e=>aY V.str (Pg e)) (hP h).2|eN x=>exactλ{b}h=>V.eN.elim (motive:=λb=>sEq x (aeG b)=aq->V.eN x=b) b (hP h).1 (λy e=>aY V.eN (Pg e)) (hP h).2|nil=>exactλ{b}h=>V.nil.elim (motive:=λb=>V.nil=b) b (hP h).1 rfl|cons x y i c=>exactλ{b}h=>V.cons.elim (motive:=λb=>cS (Wv x (aeH b)) (Wv y (aeM b)) ai=aq->V.cons x y=b) b (hP h).1 (λu v e=>congr (aY V.cons (i (rQ e).1)) (c (rQ e).2)) (hP h).2|tup x d=>exactλ{b}h=>V.tup.elim (motive:=λb=>Wv x (aeH b)=aq->V.tup x=b) b (hP h).1 (λy e=>aY V.tup (d e)) (hP h).2|a4 x=>exactλ{b}h=>V.a4.elim (motive:=λb=>au x (aeD b)=aq->V.a4 x=b) b (hP h).1 (λy e=>aY V.a4 (ay e)) (hP h).2|fn x=>exactλ{b}h=>V.fn.elim (motive:=λb=>au x (aeD b)=aq->V.fn x=b) b (hP h).1 (λy e=>aY V.fn (ay e)) (hP h).2|cls x=>exactλ{b}h=>V.cls.elim (motive:=λb=>au x (aeD b)=aq->V.cls x=b) b (hP h).1 (λy e=>aY V.cls (ay e)) (hP h).2|bi x=>exactλ{b}h=>V.bi.elim (motive:=λb=>au x (aeD b)=aq->V.bi x=b) b (hP h).1 (λy e=>aY V.bi (ay e)) (hP h).2|gH x=>exactλ{b}h=>V.gH.elim (motive:=λb=>au x (aeD b)=aq->V.gH x=b) b (hP h).1 (λy e=>aY V.gH (ay e)) (hP h).2
theorem Ph:∀{b:aX},eqE a b=aq->a=b:=by
 induction a with
 |nil=>intro b h;induction b using a6 with|nil=>rfl|cons=>exact fT h
 |cons p a i=>
  intro b h
  induction b using a6 with
  |nil=>exact fT h|cons q b=>
   have c:=rQ (b:=cS (Wv p.2 q.2) (eqE a b) ai) h;have d:=rQ c.2;exact congr (aY cQ (Prod.ext (ay c.1) (Df d.1))) (i d.2)
theorem Uc(h:aa9 a b=aq):a=b:=by
 induction a with
 |list l=>induction b with|list k=>rw[Df h]|_=>exact fT h
 |dict l e=>
  induction b with
  |dict k f=>
   obtain⟨g,i⟩:=rQ h;rw[ay g,Df i]
  |_=>exact fT h
 |inst c as=>
  induction b with
  |inst d s=>
   obtain⟨g,i⟩:=rQ h;rw[ay g,Ph i]
  |_=>exact fT h
 |_=>exact fT h
theorem Dg:∀{b:ab MO},HL a b=aq->a=b:=by
 induction a with
 |nil=>intro b h;induction b using a6 with|nil=>rfl|cons=>exact fT h
 |cons p a i=>
  intro b h
  induction b using a6 with
  |nil=>exact fT h|cons q b=>
   have c:=rQ (b:=HL a b) h;exact congr (aY cQ (Uc c.1)) (i c.2)
noncomputable def jK(m:ae->ae)(n:ae):ab ae:=@eb (λι=>ae->ab ae) (λι=>[]) (λι i k=>m k::i (ar k)) n 0
noncomputable def kN:ab ae:=[78,85,77,66,69,82]
noncomputable def kS:ab ae:=[83,84,65,84,69]
noncomputable def refOf(x:ab ae):V:=.tup (.cons (.str [114,101,102]) (.cons (.str x) (.cons (.tup .nil) (.cons (.tup .nil) (.cons .none .nil)))))
noncomputable def Pj:ab ae:=[0,53,50,35,39,47,1,2,3,11,16,21,34,8,13,18,31,23,27,36,40,10,15,20,33,25,29,38,42]
def aba(w:ae):TR:=(@cg MO (λι=>TR->ae->TR) (λt ι=>t) (λo ι h t i=>h (t.set i o) (ar i)) (Pf (.str []) w (.str []) (.str []))) .nil 0
def abb(o:ao (ab MO)):ab MO:=@bl (ab MO) (λι=>ab MO) [] (λl=>l) o
def Ud(w:ae):ab MO:=abb (i6 (mapM (dW Pj) eA) (aba w) (0::Pj.drop 2))
def T0:=gh O0
def YD(w:ae)(m:ab ae):ab MO:=dG (Ud w) [] λd r=>d::.jv m::r
noncomputable def BF(off ME:ae):V:=.tup (.cons (.a4 1) (.cons (.int (.ofNat off)) (.cons (.a4 ME) .nil)))
def tL(a:ab V)(b:V):aE:=Wv (cu a) b
def Pk(w:ae):OF:=λas mu=>dG mu aw λd r=>dG r aw λo q=>MO.casesOn o (λι=>aw) (λι ι=>aw) (λι ι=>aw)
 (λm=>cS (au (ji m) (aM 15 w)) (cS (HL (d::q) (Ud w)) (cS (tL as (.cons (.a4 2) (.cons (refOf kN) .nil))) (aa (BF 13 3,[],[])) (cS (tL as (.cons (.a4 2) (.cons (refOf kS) .nil))) (aa (BF (aM 13 w) 4,[],[])) aw)) aw) aw) (λι=>aw)
theorem Pl(m:ae->ae):([1,2].map λw=>(p6 29 [] (lM T0 60 162 [.a4 2,refOf kN] (YD w (jK m (aM 15 w)))),p6 29 [] (lM T0 60 162 [.a4 2,refOf kS] (YD w (jK m (aM 15 w))))))=
  [1,2].map λw=>(aa (BF 13 3,YD w (jK m (aM 15 w)),[]),aa (BF (aM 13 w) 4,YD w (jK m (aM 15 w)),[])):=⋯
theorem Ue(h:ji l=n):∃f,l=jK f n:=by
 have main:∀(l:ab ae)(i:ae)(f:ae->ae),(∀j x,l[j]? =aa x->f (i+j)=x)->l=(@eb (λι=>ae->ab ae) (λι=>[]) (λι b k=>f k::b (ar k)) l.length i:ab ae):=by
  intro l
  induction l with
  |nil=>intro i f _;rfl|cons a r b=>
   intro i f hf;show a::r=f i::_;rw[show f i=a from hf 0 a rfl]
   exact aY _ (b (ar i) f λj x e=>by rw[<-hf (j+1) x e];congr 1;lia)
 subst h;rw[fU];exact⟨λj=>l.getD j 0,main l 0 _ λj x e=>by rw[dY,cx,e];rfl⟩
theorem BG(h:tL a b=aq):cu a=b:=Df h
theorem rR:∀{a b:ab V},cu a=cu b->a=b
 |[],[],e=>rfl|[],_::_,h=>nomatch h|_::_,[],h=>nomatch h|x::a,y::b,h=>by
  obtain⟨c,d⟩:=V.cons.inj h;rw[c,rR d]
theorem a5{α a:Type}{f g:α->a}{l:ab α}(h:l.map f=l.map g){x:α}(b:x∈l):f x=g x:=Ro.mp h x b
theorem Pm{w:ae}(h:w∈[1,2])(as:ab V)(mu:ab MO)(v:V)(ups:ab (ae×MO))(nw:ab MO)(e:Pk w as mu=aa (v,ups,nw)):∃ks,p6 (eP mu) ks (lM T0 60 162 as mu)=aa (v,d6 ups mu,nw):=by
 cases mu with
 |nil=>exact b6 e|cons d r=>
 cases r with
 |nil=>exact b6 e|cons o q=>
 induction o with
 |jv l=>
  replace e:cS (au (ji l) (aM 15 w)) (cS (HL (d::q) (Ud w)) (cS (tL as (.cons (.a4 2) (.cons (refOf kN) .nil))) (aa (BF 13 3,[],[])) (cS (tL as (.cons (.a4 2) (.cons (refOf kS) .nil))) (aa (BF (aM 13 w) 4,[],[])) aw)) aw) aw=aa (v,ups,nw):=e
  induction a:au (ji l) (aM 15 w) with
  |false=>rw[a]at e;exact b6 e|true=>
  induction f:HL (d::q) (Ud w) with
  |false=>rw[a,f]at e;exact b6 e|true=>
  rw[a,f]at e;obtain⟨m,rfl⟩:=Ue (ay a);have i:d::.jv (jK m (aM 15 w))::q=YD w (jK m (aM 15 w)):=by unfold YD;rw[<-Dg f];rfl
  rw[i];have z:=av (a5 (Pl m) h);have j:eP (YD w (jK m (aM 15 w)))=29:=by
   rcases aG.mp h with rfl|h
   ·kernel_rfl
   ·rcases aG.mp h with rfl|h
    ·kernel_rfl
    ·exact sr h
  rw[j]
  induction c:tL as (.cons (.a4 2) (.cons (refOf kN) .nil)) with
  |true=>
   rw[c]at e
   cases e
   rw[rR (b:=[.a4 2,refOf kN]) (BG c)];exact⟨[],z.1⟩
  |false=>
   induction g:tL as (.cons (.a4 2) (.cons (refOf kS) .nil)) with
   |true=>
    rw[c,g]at e
    cases e
    rw[rR (b:=[.a4 2,refOf kS]) (BG g)];exact⟨[],z.2⟩
   |false=>rw[c,g]at e;exact b6 e
 |_=>exact b6 e
def YE(w j:ae)(as:ab V):Rm V:=cS (au j 162) (j_ Pj (Pk w) as) bW
def T1(w:ae):=gh (YE w)
theorem u7(c:w∈[1,2]):dH 129 (YE w):=λj as σ v τ e=>by
 unfold YE at e
 induction h:au j 162 with
 |false=>rw[h]at e;exact b6 e|true=>
  rw[h]at e
  replace e:j_ Pj (Pk w) as σ=aa (v,τ):=e
  have:=ay h;subst this;exact BE (n:=0) (lab:=Pj) (b:=8) (N:=60) ⟨bj _,aF _⟩ eQ (λa mu v ups nw ι ι e=>Pm c a mu v ups nw e) e
def Pn(m:ae->ae)(p:ae)(l:ab ae)(j:ae):ae:=cS (bH j p) (m j) (@bl ae (λι=>ae) (m j) (λx=>x) (Z3 l (mw j p)))
noncomputable def adw(b:ae->ab ae)(n:ae):V:=@eb (λι=>ae->V) (λι=>.nil) (λι i k=>.cons (.cons (.int (.ofNat (ar k))) (.eN (b k))) (i (ar k))) n 0
noncomputable def aD:ab ae:=[100,121,110,97,109,105,99]
noncomputable def aS:ab ae:=[115,101,113,117,101,110,116,105,97,108]
noncomputable def aR:ab ae:=[114,97,110,100,111,109]
noncomputable def sG:V:=.str [71,79,65,76]
structure Cfg where
 a:ab ae
 w:ae
 k:aE
 s:aE
theorem abc:iA Cfg:=⟨⟨[],0,aq,aq⟩⟩
def Cfg.key(c:Cfg):ab ae:=cS c.k kN []
def Cfg.st(c:Cfg):ab ae:=cS c.s kS []
noncomputable def hG(e:ae):MO:=.dict (.cons (.cons sG (.a4 59)) .nil) e
def dig(w n:ae):ab ae:=cS (au w 1) [aM 48 n] [aM 48 (gC n 10),aM 48 (bz n 10)]
def adx(c:Cfg)(m:ae->ae)(r:ab ae)(n:ae):ae->ae:=
 let a:=Pn m 6 (qH r [32])
 let b:=cS c.k (Pn a 13 (dig c.w n)) a
 cS c.s (Pn b (aM 13 c.w) [48,48]) b
noncomputable def fL:ab Cfg:=[⟨aS,1,ai,ai⟩,⟨aS,1,ai,aq⟩,⟨aS,2,ai,ai⟩,⟨aS,2,ai,aq⟩,⟨aS,1,aq,ai⟩,⟨aS,1,aq,aq⟩,⟨aS,2,aq,ai⟩,⟨aS,2,aq,aq⟩,
 ⟨aD,1,aq,ai⟩,⟨aD,1,aq,aq⟩,⟨aD,2,aq,ai⟩,⟨aD,2,aq,aq⟩,⟨aR,1,aq,ai⟩,⟨aR,1,aq,aq⟩,⟨aR,2,aq,ai⟩,⟨aR,2,aq,aq⟩]
def lim(c:Cfg):ae:=cS c.k (cS (au c.w 1) 9 12) 12
noncomputable def aC(f:ae->ae)(n:ae):V:=@eb (λι=>ae->V) (λι=>.nil) (λι i k=>.cons (.eN [f (bP 3 k),f (ar (bP 3 k)),f (ar (ar (bP 3 k)))]) (i (ar k))) n 0
noncomputable def wi:ab ae:=[111,110,101]
noncomputable def zr:ab ae:=[116,119,111]
noncomputable def q4:ab ae:=[103,111,97,108]
noncomputable def mC:ab ae:=[115,101,113,117,101,110,116,105,97,108]
noncomputable def Lz:ab ae:=[114,101,108,97,116,105,118,101]
def jL(l:ab V):V:=.tup (cu l)
noncomputable def AG:V:=.str [79,78,69]
noncomputable def LA:V:=.str [84,87,79]
noncomputable def kg:V:=.str [87,79,82,75]
def Fy(asc:V):V:=jL [jL [asc,.str [76,69,84,84,69,82]]]
def Po:V:=jL [.str [102,105,108,101,115],jL [sG]]
def gk(way:ae)(asc:V):V:=cS (au way 2) (jL [.str [109,101,114,103,101],kg,Fy asc,jL [AG,LA],Po])
 (jL [.str [115,111,114,116],kg,Fy asc,.bool ai,jL [.str [102,105,108,101,115],cS (au way 0) (jL [AG]) (jL [AG,LA])],Po])
def wq(a:ab ae)(w:ae)(k s:ab ae)(m:ab ae)(i:MO)(he:ae)(t:MO):ab MO:=xI (xI (xI (xI (Pf (.str a) w (.str k) (.str s)) 53 (.jv m)) 49 i) 56 (.dict .nil he)) 58 t
noncomputable def lO(one two goal:V):MO:=.dict (.cons (.cons (.str wi) (.tup (.cons (.str mC) (.cons one .nil)))) (.cons (.cons (.str zr) (.tup (.cons (.str mC) (.cons two .nil)))) (.cons (.cons (.str q4) (.tup (.cons (.str Lz) (.cons goal .nil)))) .nil))) 3
noncomputable def sB:V:=.str [115,111,114,116,45,98,101,103,105,110]
noncomputable def sT:V:=.str [115,111,114,116,45,116,97,107,101]
noncomputable def sM:V:=.str [109,101,114,103,101,45,116,97,107,101]
noncomputable def sO:V:=.str [115,111,114,116,45,111,114,100,101,114]
noncomputable def sGv:V:=.str [115,111,114,116,45,103,105,118,101]
noncomputable def sE:V:=.str [115,111,114,116,45,101,110,100]
noncomputable def sR(r:ae)(b:aE):MO:=.inst 15 [(6130987892,.int 100000),(6214874995,.a4 r),(1582366286693,.int 0),(26045266014945502329,.bool b)]
noncomputable def mD:MO:=.dict .nil 0
noncomputable def q5(l:ae):MO:=.dict (.cons (.cons kg (.a4 l)) .nil) 1
noncomputable def HM:MO:=.dict .nil 2
section
variable(a k s:ab ae)(w he q1 q2 q3:ae)(m:ab ae)
theorem wj:p6 59 [61,62] (lM T0 60 215 [.a4 50,jL [sB,kg]] (wq a w k s m (lO (.gH q1) (.gH q2) (.gH q3)) he mD))=
  aa (.str [],d6 [(58,q5 59)] (wq a w k s m (lO (.gH q1) (.gH q2) (.gH q3)) he mD),[sR 60 ai,.list .nil]):=⋯
theorem Dh(q:ae):p6 59 [] (lM T0 60 215 [.a4 50,jL [sE,kg]] (wq a w k s m (lO (.gH q1) (.gH q2) (.gH q3)) he (.dict (.cons (.cons kg (.gH q)) .nil) 1)))=
  aa (.str [],d6 [(58,HM)] (wq a w k s m (lO (.gH q1) (.gH q2) (.gH q3)) he (.dict (.cons (.cons kg (.gH q)) .nil) 1)),[]):=⋯
end
noncomputable def og(f:ae->ae)(k:ae):ab ae:=[f (bP 3 k),f (ar (bP 3 k)),f (ar (ar (bP 3 k)))]
def fZ(m:ae->ae)(p:ae)(f:ae->ae)(k:ae):ae->ae:=qG k m λj=>Pn m p (og f j)
def hU(m:ae->ae)(r:ab ae):ab ae:=qH (jK m 13) r
section
variable(a k s r:ab ae)(w he q2 q3:ae)(m f g:ae->ae)
def JO(k0:ae):ab MO:=wq a w k s (hU m r) (lO (.a4 61) (.gH q2) (.gH q3)) he (q5 59)++[sR 60 ai,.list .nil,.list (aC f k0)]
theorem LB:((bh 13).map λk0=>p6 62 [] (lM T0 60 215 [.a4 50,jL [sT,kg,jL [AG]]] (JO a k s r w he q2 q3 m f k0)))=
  (bh 13).map λk0=>aa (.str [],d6 [(53,.jv (hU (fZ m 0 f k0) r)),(56,.dict .nil (ar (ar he))),(60,.list (aC f k0))] (JO a k s r w he q2 q3 m f k0),[]):=⋯
end
section
variable{α β:Type}{T:Tab}{r:Rec}{sc:Sc}
theorem cw{c:Rm α}{f:α->Rm β}{σ σ1:St}{a:α}(h:c σ=aa (a,σ1)):b8 c f σ=f a σ1:=by unfold b8;rw[h]
theorem gm(h:(iq sc m).f T r re σ=aa ((.next,re1),σ1)):x3 T r sc (m::l) re σ=x3 T r sc l re1 σ1:=cw (f:=λp=>gP p (x3 T r sc l)) h
theorem mF(h:(iq sc m).f T r re σ=aa ((.ret v,re1),σ1)):x3 T r sc (m::l) re σ=aa ((.ret v,re1),σ1):=cw (f:=λp=>gP p (x3 T r sc l)) h
theorem jy(h:T.Wc k as σ=aw)(a:T.fn k=aa f)(b:hI f.params as f.lz=aa re):d' T r k as σ=b8 (r.ex f.sc f.body re) yo σ:=by
 unfold d' alt;rw[h,a];show opt (hI f.params as f.lz) _ σ=_;rw[b];rfl
theorem pL(h:fP σ i=aa (aa (v,j)))(a:d9 xs j v re=aa re1)(b:r.ex sc body re1 σ=aa ((.next,e),σ1)):
  h6 r sc xs body (m+1) i re σ=h6 r sc xs body m j e σ1:=by
 show Aa i (rt (.next,re)) (λv j=>opt (d9 xs j v re) λre1=>b8 (r.ex sc body re1) λp=>gP p (h6 r sc xs body m j)) σ=_;unfold Aa;rw[h];show opt (d9 xs j v re) _ σ=_;rw[a];exact cw (f:=λp=>gP p (h6 r sc xs body m j)) b
theorem rS(h:fP σ i=aa aw):h6 r sc xs body (m+1) i re σ=aa ((.next,re),σ):=by
 show Aa i (rt (.next,re)) (λv j=>opt (d9 xs j v re) λre1=>b8 (r.ex sc body re1) λp=>gP p (h6 r sc xs body m j)) σ=_;unfold Aa;rw[h];rfl
end
def jM(k:ae)(o:ab V->Rm V):Tab:=gh λj as=>cS (au j k) (o as) bW
def bT(k:ae):Fn:=@bl Fn (λι=>Fn) ⟨[],[],[],[]⟩ (λf=>f) (Z6 k)
def wm:ab cF:=vE (iM (vE (iM (bT 228).body)))
section
variable{T:Tab}{r:Rec}{sc:Sc}{re:aX}{σ σ1 DP:St}
theorem u9(h:qk sc e=⟨λT r re=>b8 (r.ev sc f re) λv=>b8 (te r sc re es) λvs=>w_ T r v vs⟩)(hf:(bg T n).ev sc f re σ=aa (.fn k,σ))(a:te (bg T n) sc re es σ=aa (vs,σ1))(c:d' T (bg T n) k vs σ1=aa (v,DP)):(bg T (n+1)).ev sc e re σ=aa (v,DP):=by
 show(qk sc e).f T (bg T n) re σ=_;rw[h];show b8 ((bg T n).ev sc f re) (λv=>b8 (te (bg T n) sc re es) λvs=>w_ T (bg T n) v vs) σ=_;rw[cw hf];show b8 (te (bg T n) sc re es) (λvs=>w_ T (bg T n) (.fn k) vs) σ=_;rw[cw a];exact c
theorem kT(h:T.Wc k as σ=aa p):d' T r k as σ=aa p:=by
 unfold d' alt;rw[h]
theorem LC(h:iq sc m=⟨λι r re=>b8 (r.ev sc e re) λι=>rt (.next,re)⟩)(he:(bg T n).ev sc e re σ=aa (v,σ1)):(iq sc m).f T (bg T n) re σ=aa ((.next,re),σ1):=by
 rw[h];exact cw (f:=λι=>rt ((Fl.next,re):Fl×aX)) he
end
def u_(w s p:V):aX:=[(enc (aL "world"),w),(enc (aL "statement"),s),(enc (aL "part"),p)]
theorem JP{o:ab V->Rm V}(h:o [w,d] σ=aa (v,σ1)):(bg (jM 215 o) 16).ex (bT 228).sc wm (u_ w s (.tup (.cons (.str x) (.cons d .nil)))) σ=aa ((.next,u_ w s (.tup (.cons (.str x) (.cons d .nil)))),σ1):=by
 have hb:wm=[iM wm]:=⋯;show x3 (jM 215 o) (bg (jM 215 o) 15) _ wm _ σ=_;rw[hb];refine(gm (LC (e:=i5 (iM wm)) (⋯) (u9 (f:=yb (i5 (iM wm))) (es:=Ae (i5 (iM wm))) (k:=215) (vs:=[w,d]) (σ1:=σ) (⋯) (⋯) (⋯) (kT (p:=(v,σ1)) h)))).trans rfl
def Ug{α:Type}(f:aX->Rm α)(p:Fl×aX):Rm α:=Fl.casesOn p.1 (f p.2) λι=>bW
theorem zt{α:Type}{f:aX->Rm α}{c:Rm (Fl×aX)}{σ:St}{x:α×St}(e:b8 c (Ug f) σ=aa x):∃re σ1,c σ=aa ((.next,re),σ1)/\f re σ1=aa x:=by
 obtain⟨⟨l,re⟩,σ1,e1,e⟩:=br (x:=x.1) (τ:=x.2) e
 induction l with
 |next=>exact⟨re,σ1,e1,e⟩|ret v=>exact b6 e
def YF{α:Type}(r:Rec)(sc:Sc)(c:aQ)(re:aX)(b:aE)(f:Rm α):Rm α:=b8 (r.tr sc c re) λt=>eB (Gy b t) f
theorem rT{α:Type}{r:Rec}{sc:Sc}{c:aQ}{re:aX}{b:aE}{f:Rm α}{σ:St}{x:α×St}(e:YF r sc c re b f σ=aa x):∃σ1,r.tr sc c re σ=aa (b,σ1)/\f σ1=aa x:=by
 obtain⟨t,σ1,e1,e⟩:=br (x:=x.1) (τ:=x.2) e;obtain⟨h,e⟩:=Sx e;have h:b=t:=by cases b<;>cases t<;>first|rfl|exact fT h
 exact⟨σ1,h▸e1,e⟩
def Pp:cF:=iM ((bT 207).body.drop 2)
set_option backward.match.sparseCases false in
noncomputable def abd:cF->aQ
 |.Raise (aa (.Call _ (a::_) _ _)) _ _=>a|_=>.Tuple [] cC cC
noncomputable def HN:aQ:=abd (iM (Y' Pp))
def Pq:ab cF:=[iM (bT 207).body,iM ((bT 207).body.drop 1)]
theorem Uh:(bT 207).body=Pq++[.If (JU Pp) [.Raise (aa (.Call (.Name qr ⟨1309,14,1309,22⟩) [HN] [] ⟨1309,14,1309,64⟩)) aw ⟨1309,8,1309,64⟩] [] ⟨1308,4,1309,64⟩,iM ((bT 207).body.drop 3)]:=⋯
theorem abe:fb [HN]=aq/\(bT 207).sc.lookup qr=aa .globalImplicit:=⟨⋯,⋯⟩
def mv(n j:ae)(as:ab V)(σ:St):Prop:=∀(G:Gm),HX G.w G.X->∀(us:ab ag)(k:Kf),pj G k as us->SR G k σ->∀(A:aW)(fs:ab Env),el A n->A.frames=aa fs->Act G k fs->
 dg (Md G.w) A (.call (.ref (G.X.jV j)) ⟨us,[]⟩) (λx s=>match x with|.error e=>oe G k fs e s|.ok _=>jD) (sh G.b k)
noncomputable def u'(T:Tab)(r:Rec)(as:ab V):Rm V:=opt (hI (bT 207).params as (bT 207).lz) λre=>b8 (x3 T r (bT 207).sc Pq re) (Ug λre=>YF r (bT 207).sc (JU Pp) re aq (r.ev (bT 207).sc HN re))
theorem YG{n b N:ae}(hb:n<=b/\8<=b){r:ae->ab V->Rm V}(g:dH n r){as:ab V}{σ τ:St}{v:V}(e:u' (gh r) (bg (gh r) N) as σ=aa (v,τ)):mv (b+2*N+2) 207 as σ:=λG i us k u S A fs m j t=>by
 obtain⟨re,d,e⟩:=lb e;obtain⟨re1,σ1,e1,e⟩:=zt e;obtain⟨p,e2,e3⟩:=rT e;have H:=g.TN i;obtain⟨I,U⟩:=pH H hb N;have q:8<=b+2*N:=bq hb.2 (bp ..);refine Fu (n:=b+2*N+1) H (⋯:(gh r).fn 207=aa (bT 207)) d u S j m λ{o s k₁ env}F he a c R f cP RD w=>?_;have L:=cP _ ax;have x:env.kindOf qr=aa .globalImplicit:=by
  rw[he];show s.scope.names.lookup qr=_;rw[F.Ti];exact abe.2
 rw[Uh];refine wh H I U q R e1 c (RD.less (fa _)) λy g2 z C=>?_;have l2:Le k y:=bY.drop a g2 cP;refine oN I.togw C e2 z (RD.less (fa _)) λW l3 D E=>?_;rw[bc rfl];refine ek (Fs H i I.togw E D x abe.1 e3 RD λX Y tk e t0 Z J M O P Q T=>?_);have l:=(l2.trans l3).trans J;exact Ly t j l M O f L P Q T λs' h=>h
section
variable{G:Gm}{K:jT}{T:Tab}{mm n:ae}{k:Kf}{σ τ τ1 τ2:St}{r r' :Rec}{sc:Sc}{re lK:aX}{env:Env}{fs:ab Env}{pos pe pc:Pos}
theorem BH(H:qT G K T mm)(I:gw G r n)(l:8<=n){t it:aQ}{xs:ab ae}{f:aQ}{es:ab aQ}(a:∃x p,f=.Name x p)(o:fb es=aq)(B:∀{re:aX}{k:Kf}{σ:St},cB G k env sc re->cU G n (cy env) k σ (r'.ex sc [.Expr (.Call f es [] pc) pe] re) (RF G env sc) (eY [.Expr (.Call f es [] pc) pe] env))(u:dr sc t=aa xs)(R:cB G k env sc re){m:ae}(he:b8 (la r sc it re) (λi=>p7 r' sc xs [.Expr (.Call f es [] pc) pe] m i re) σ=aa (lK,τ))(S:SR G k σ){A:aW}(RA:el A n)(y:A.frames=aa (env::fs))(c:env.frame=aa env.locals){j:ae}{vs:ab V}(e1:r.ev sc f lK τ=aa (.fn j,τ1))(e2:te r sc lK es τ1=aa (vs,τ2)){Q:tT->ah->Prop}{E:ag->ah->Prop}(z:∀us k',bY k.ρ k.h k'.ρ k'.h (cy env)->SR G k' τ2->cB G k' env sc lK->pj G k' vs us->dg (Md G.w) (A.mark aw) (.call (.ref (G.X.jV j)) ⟨us,[]⟩) (λx s=>match x with|.error e=>oe G k' (env::fs) e s|.ok _=>jD) (sh G.b k'))(q:∀v s k',bY k.ρ k.h k'.ρ k'.h (cy env)->rP G k' env fs v s->E v s):bk (Md G.w) A (oW (.For t it [.Expr (.Call f es [] pc) pe] [] pos) env) Q E (sh G.b k):=by
 refine Lm H I l B u R he S RA λL g1 C R1=>?_;refine ek (uq (zb H I a o R1 e1 e2 C RA.mark λus g l2 D F=>?_) R1.norm (by rfl))
 refine ph (z us g (g1.trans l2.wk) D (R1.mono l2) F) λx s h=>?_
 cases x with
 |ok M=>exact h.elim|error e=>exact HK y c h λd J=>q e d g (g1.trans l2.wk) J
end
set_option backward.match.sparseCases false in
noncomputable def zu:cF->Pos
 |.If a b c p=>p|.For a b c d p=>p|.Expr a p=>p|.Assign a b p=>p|_=>cC
set_option backward.match.sparseCases false in
noncomputable def tgS:cF->aQ
 |.For t a b c d=>t|_=>.Tuple [] cC cC
def i0:cF:=iM ((bT 215).body.drop 1)
noncomputable def i1:cF:=iM (yg i0)
noncomputable def i2:cF:=iM (yg i1)
noncomputable def i3:cF:=iM (yg i2)
noncomputable def i4:cF:=iM (yg i3)
noncomputable def LD:cF:=iM ((Y' i4).drop 1)
def wu:cF:=iM (vE LD)
theorem Uk:(bT 215).body=[iM (bT 215).body]++[.If (JU i0) (Y' i0) (yg i0) (zu i0),iM ((bT 215).body.drop 2)]:=⋯
theorem YH:yg i0=[.If (JU i1) (Y' i1) (yg i1) (zu i1)]/\yg i1=[.If (JU i2) (Y' i2) (yg i2) (zu i2)]/\yg i2=[.If (JU i3) (Y' i3) (yg i3) (zu i3)]/\yg i3=[.If (JU i4) (Y' i4) (yg i4) (zu i4)]/\
  Y' i4=[iM (Y' i4)]++[.For (tgS LD) (i5 LD) [.Expr (.Call (yb (i5 wu)) (Ae (i5 wu)) [] (Ui (i5 wu))) (zu wu)] [] (zu LD)]:=⟨⋯,⋯,⋯,⋯,⋯⟩
abbrev abf:ab cF:=[.Expr (.Call (yb (i5 wu)) (Ae (i5 wu)) [] (Ui (i5 wu))) (zu wu)]
def abg(r:Rec)(re:aX):Rm aX:=opt (dr (bT 215).sc (tgS LD)) λxs=>b8 (la r (bT 215).sc (i5 LD) re) λi=>p7 r (bT 215).sc xs abf 0 i re
def Fz(T:Tab)(r:Rec)(as:ab V):Rm (V×ab V):=opt (hI (bT 215).params as (bT 215).lz) λre=>b8 (x3 T r (bT 215).sc [iM (bT 215).body] re) (Ug λre=>
 YF r (bT 215).sc (JU i0) re ai (YF r (bT 215).sc (JU i1) re ai (YF r (bT 215).sc (JU i2) re ai (YF r (bT 215).sc (JU i3) re ai (YF r (bT 215).sc (JU i4) re aq
  (b8 (x3 T r (bT 215).sc [iM (Y' i4)] re) (Ug λre=>b8 (abg r re) λre=>b8 (r.ev (bT 215).sc (yb (i5 wu)) re) λf=>b8 (te r (bT 215).sc re (Ae (i5 wu))) λvs=>rt (f,vs))))))))
theorem abh:(∃x p,yb (i5 wu)=.Name x p)/\fb (Ae (i5 wu))=aq:=⟨⟨aL "rows_to_file",Uj (yb (i5 wu)),⋯⟩,⋯⟩
def Di(b:ae)(N:ae)(r:ae->ab V->Rm V)(a:St)(j:ae)(s:ab V):Prop:=∀{n n' :ae}(hb:n<=b/\8<=b)(g:dH n r){as:ab V}{σ:St}(e:Fz (gh r) (bg (gh r) N) as σ=aa ((.fn j,s),a))(h:n'<=b+2*N)(c:mv n' j s a),mv (b+2*N+1) 215 as σ
def JQ:=λx:(_×_×_)×_×_×_=>Di x.1.1 x.1.2.1 x.1.2.2 x.2.1 x.2.2.1 x.2.2.2
def rU:=haveI:=Gw;qy bB JQ
namespace JR
def b:=rU.1.1
def N:=rU.1.2.1
def r:=rU.1.2.2
def a:=rU.2.1
def j:=rU.2.2.1
def s:=rU.2.2.2
theorem ok:Di b N r a j s:=by
 intro n n' hb g as σ e J L;exactλG y us k M S A fs O P t=>by
  refine ck λp=>?_;obtain⟨re,q,e⟩:=lb e;obtain⟨re1,σ1,e0,e⟩:=zt e;obtain⟨Q,t0,e⟩:=rT e;obtain⟨T,t1,e⟩:=rT e;obtain⟨W,t2,e⟩:=rT e;obtain⟨X,Y,e⟩:=rT e;obtain⟨Z,t4,e⟩:=rT e;obtain⟨re2,σ7,e1,e⟩:=zt e;obtain⟨re3,σ8,e2,e⟩:=br e;obtain⟨xs,ht,e2⟩:=lb e2;obtain⟨f,σ9,e3,e⟩:=br e;obtain⟨vs',z,e4,e⟩:=br e
  cases e
  have H:=g.TN y;obtain⟨I,U⟩:=pH H hb N;have u:8<=b+2*N:=bq hb.2 (bp ..);refine p ?_;refine Fu H (⋯:(gh r).fn 215=aa (bT 215)) q M S P O λ{o fd k₁ env}F he d i l c cP RD m=>?_;refine ck λp=>?_;obtain⟨b1,b2,b3,b4,b5⟩:=YH;refine p ?_;refine Uk▸?_;refine wh H I U u l e0 i RD λk2 g2 S2 R2=>?_;refine oN I.togw R2 t0 S2 RD λk3 l3 S3 R3=>?_;rw[aU bM,b1];refine oN I.togw R3 t1 S3 RD λk4 l4 S4 R4=>?_;rw[aU bM,b2];refine oN I.togw R4 t2 S4 RD λk5 l5 S5 R5=>?_;rw[aU bM,b3];refine oN I.togw R5 Y S5 RD λk6 l6 S6 R6=>?_;rw[aU bM,b4];refine oN I.togw R6 t4 S6 RD λC l7 S7 R7=>?_;rw[bc rfl,b5];have D:∀{k'},bY C.ρ C.h k'.ρ k'.h (cy env)->Le k k' :=λg=>bY.drop d ((((((g2.trans l3.wk).trans l4.wk).trans l5.wk).trans l6.wk).trans l7.wk).trans g) cP;refine wh H I U u R7 e1 S7 RD λk8 E S8 R8=>?_;refine ek (BH H I.togw u abh.1 abh.2 (λR=>I.ex R) ht R8 e2 S8 RD m c e3 e4 (λus k' w S' R' x=>?_) λv s' k' w h=>?_)
  ·exact L G y us k' x S' _ _ (RD.mark.less J) m ((t.mono (D (E.trans w))).cons c R')
  ·exact Ft c (cP _ ax) (h.from (D (E.trans w))) λs'' h=>h
end JR
theorem YI:Di b N o τ j vs:=@d5 _ _ JQ @JR.ok ((b,N,o),τ,j,vs)
noncomputable def qa(d:ab ae×V):V:=.tup (.cons (.str d.1) (.cons d.2 .nil))
def qz(w s:V):aX:=[(enc (aL "world"),w),(enc (aL "statement"),s)]
def iw:cF:=iM (vE (iM (bT 228).body))
section
variable{o:ab V->Rm V}{σs:ae->St}{w s:V}{ds:ab (ab ae×V)}{L:ae}
theorem lP(h:σ.t.get n=aa (.list l)):fP σ (.kx n i)=aa ((z' l i).map λv=>(v,.kx n (ar i))):=by
 show oLst σ n (λl=>A3 (z' l i) λv=>(v,.kx n (ar i)))=_;unfold oLst;rw[h];show A3 (z' l i) _=_;rcases z' l i<;>rfl
theorem Dj(i:It)(p:V)(re:aX)(h:re=qz w s\/∃q,re=u_ w s q)(c:∃a b,i=.kx a b):d9 [enc (aL "part")] i p re=aa (u_ w s p):=by
 obtain⟨a,b,rfl⟩:=c;rcases h with rfl|⟨q,rfl⟩<;>kernel_rfl
theorem JS(g:∀i,i<=ds.length->(σs i).t.get L=aa (.list (cu (ds.map qa))))(b:∀i d,ds[i]? =aa d->∃v,o [w,d.2] (σs i)=aa (v,σs (i+1))):
  ∀(k m i:ae)(re:aX),k<m->i+k=ds.length->(re=qz w s\/∃q,re=u_ w s q)->∃r,h6 (bg (jM 215 o) 16) (bT 228).sc [enc (aL "part")] wm m (.kx L i) re (σs i)=aa ((.next,r),σs ds.length)
 |0,m+1,i,re,u,f,x=>by
  have e:i=ds.length:=by lia
  refine⟨re,?_⟩;rw[e];refine rS ?_;rw[lP (g _ (aF _)),ie,c_ (by simp)];rfl
 |k+1,m+1,i,re,n,f,a=>by
  have l:i<ds.length:=by lia
  have c:ds[i]? =aa ds[i]:=az l;obtain⟨v,p⟩:=b i _ c;obtain⟨r,h⟩:=JS g b k m (i+1) (u_ w s (qa ds[i])) (je.mp n) (by lia) (.inr ⟨_,rfl⟩)
  refine⟨r,?_⟩;rw[pL (v:=qa ds[i]) (j:=.kx L (ar i)) (re1:=u_ w s (qa ds[i])) ?_ (Dj _ _ _ a ⟨_,_,rfl⟩) (JP p)]
  ·exact h
  ·rw[lP (g i (eW l)),ie,cL,c];rfl
theorem YJ(b:la (bg (jM 215 o) 16) (bT 228).sc (i5 iw) (qz w s) a=aa (.kx L 0,σs 0))(n:ds.length<90)(g:∀i,i<=ds.length->(σs i).t.get L=aa (.list (cu (ds.map qa))))(c:∀i d,ds[i]? =aa d->∃v,o [w,d.2] (σs i)=aa (v,σs (i+1))):
  d' (jM 215 o) (bg (jM 215 o) 18) 228 [w,s] a=aa (.bool aq,σs ds.length):=by
 obtain⟨e,l⟩:=JS (w:=w) (s:=s) g c ds.length 90 0 (qz w s) n (dY ds.length) (.inl rfl);have hb:(bT 228).body=[iM (bT 228).body,iM ((bT 228).body.drop 1)]:=⋯;have h:vE (iM (bT 228).body)=[iw]:=⋯;rw[jy (f:=bT 228) (re:=qz w s) (⋯) (⋯) (⋯)];have j:(bg (jM 215 o) 17).ex (bT 228).sc (vE (iM (bT 228).body)) (qz w s) a=aa ((.next,e),σs ds.length):=by
  show x3 (jM 215 o) (bg (jM 215 o) 16) (bT 228).sc (vE (iM (bT 228).body)) (qz w s) a=_;rw[h];refine(gm (re1:=e) (σ1:=σs ds.length) ?_).trans rfl;have A:iq (bT 228).sc iw=⟨λι r re=>b8 (la r (bT 228).sc (i5 iw) re) λi=>h6 r (bT 228).sc [enc (aL "part")] wm hM i re⟩:=⋯;rw[A];show b8 (la (bg (jM 215 o) 16) (bT 228).sc (i5 iw) (qz w s)) (λi=>h6 (bg (jM 215 o) 16) (bT 228).sc [enc (aL "part")] wm hM i (qz w s)) a=_;rw[cw b];exact l
 have k:(bg (jM 215 o) 18).ex (bT 228).sc (bT 228).body (qz w s) a=aa ((.ret (.bool aq),e),σs ds.length):=by
  show x3 (jM 215 o) (bg (jM 215 o) 17) (bT 228).sc (bT 228).body (qz w s) a=_;rw[hb];have A:iq (bT 228).sc (iM (bT 228).body)=⟨λι r re=>b8 (r.ex (bT 228).sc (vE (iM (bT 228).body)) re) λp=>Fl.casesOn p.1 (rt p) (λι=>M.Internal.bW)⟩:=⋯;rw[gm (re1:=e) (σ1:=σs ds.length) (by
   rw[A];show b8 ((bg (jM 215 o) 17).ex (bT 228).sc (vE (iM (bT 228).body)) (qz w s)) (λp=>Fl.casesOn (motive:=λι=>Rm (Fl×aX)) p.1 (rt p) (λι=>M.Internal.bW)) a=_;rw[cw j];rfl)]
  exact mF (re1:=e) (σ1:=σs ds.length) (⋯)
 rw[cw k];rfl
end
theorem d8{n b N j:ae}(hb:n<=b/\8<=b){o:ae->ab V->Rm V}(g:dH n o){lab:ab ae}{as as0:ab V}{σ τ:St}{mu0:ab MO}{v a:V}{ups:ab (ae×MO)}{nw:ab MO}{ks:ab ae}(e1:dI (qp (cT (dW lab) eA) as) (i6 (mapM (dW lab) eA) σ.t lab) dE=aa (as0,mu0))(e2:p6 (eP mu0) ks (lM (gh o) N j as0 mu0)=aa (v,d6 ups mu0,nw))(e3:j_ lab (λι ι=>aa (v,ups,nw)) as σ=aa (a,τ)):Good (b+2*N+1) j as σ a τ:=
 BE hb g (lab:=lab) (F:=λι ι=>aa (v,ups,nw)) (λs mu v1 Ub w h c d=>by
  rw[h,c]at e1
  cases e1
  cases d
  exact⟨ks,e2⟩) e3
def oE(w:V)(ds:ab V)(s:ae->St)(as:ab V):Rm V:=λσ=>open Classical in if h:∃i d,ds[i]? =aa d/\as=[w,d]/\σ=s i then aa (.str [],s (h.choose+1)) else aw
theorem Ww{s:ae->St}(n:ds.Nodup)(h:ds[i]? =aa d):oE w ds s [w,d] (s i)=aa (.str [],s (i+1)):=by
 unfold oE;have x:∃i' a,ds[i']? =aa a/\[w,d]=[w,a]/\s i=s i' :=⟨i,d,h,rfl,rfl⟩;rw[dif_pos x];obtain⟨a,b,c,_⟩:=x.choose_spec;have e:d=a:=(c7 (c7 c).2).1;subst e;have f:x.choose=i:=by
  obtain⟨l1,e1⟩:=aV.mp b;obtain⟨l2,e2⟩:=aV.mp h;exact(ab.getElem_inj n).mp (e1.trans e2.symm)
 rw[f]
set_option tactic.hygienic true in
theorem Wx{s:ae->St}(hG:∀i d,ds[i]? =aa d->Good n 215 [w,d] (s i) (.str []) (s (i+1))):dH n λj as=>cS (au j 215) (oE w ds s as) bW:=λj as σ v τ e=>by
 replace e:cS (au j 215) (oE w ds s as) bW σ=aa (v,τ):=e
 induction a:au j 215 with
 |false=>rw[a]at e;exact b6 e|true=>
  rw[a]at e
  replace e:oE w ds s as σ=aa (v,τ):=e
  have:=ay a;subst this;unfold oE at e
  split at e
  ·rename_i h
   obtain⟨d,b,c,f⟩:=h.choose_spec
   cases e
   have:=hG _ d b;rw[<-f,<-c]at this;exact this
  ·exact b6 e
theorem Ul(f:8<=n){ds:ab (ab ae×V)}{a:ae->St}(l:ds.length<90)(g:(ds.map (·.2)).Nodup)(k:∀o,la (bg (jM 215 o) 16) (bT 228).sc (i5 iw) (qz w s) c=aa (.kx L 0,a 0))(m:∀i,i<=ds.length->(a i).t.get L=aa (.list (cu (ds.map qa))))(hG:∀i d,ds[i]? =aa d->Good n 215 [w,d.2] (a i) (.str []) (a (i+1))):Good (n+2*18+1) 228 [w,s] c (.bool aq) (a ds.length):=by
 have ok:dH n λj as=>cS (au j 215) (oE w (ds.map (·.2)) a as) bW:=Wx λi d h=>by
  rw[cL]at h
  induction q:ds[i]? with
  |none=>rw[q]at h;exact b6 h|some p=>rw[q]at h;cases h;exact hG i p q
 have e:=YJ (o:=oE w (ds.map (·.2)) a) (k _) l m λi d h=>⟨_,Ww g (by rw[cL,h];rfl)⟩
 unfold jM at e;exact kc (n:=n) (b:=n) (N:=18) ⟨aF _,f⟩ ok e
def zv:cF:=iM wm
abbrev Pr:ab cF:=[.Expr (.Call (yb (i5 zv)) (Ae (i5 zv)) [] (Ui (i5 zv))) (zu zv)]
theorem Um:(bT 228).body=[.Try [.For (tgS iw) (i5 iw) Pr [] (zu iw)] [.ExceptHandler (aa (.Name qr ⟨1453,11,1453,19⟩)) aw [.Return (aa (.Constant (.bool ai) 0 ⟨1454,15,1454,20⟩)) ⟨1454,8,1454,20⟩] ⟨1453,4,1454,20⟩] [] [] ⟨1450,4,1454,20⟩,iM ((bT 228).body.drop 1)]:=⋯
theorem ady:(bT 228).sc.lookup qr=aa .globalImplicit:=⋯
theorem abi:(∃x p,yb (i5 zv)=.Name x p)/\fb (Ae (i5 zv))=aq:=⟨⟨aL "sort_step",Uj (yb (i5 zv)),⋯⟩,⋯⟩
def BI(n j:ae)(as:ab V)(σ:St):Prop:=∀(G:Gm),HX G.w G.X->∀(us:ab ag)(k:Kf),pj G k as us->SR G k σ->∀(A:aW)(fs:ab Env),el A n->A.frames=aa fs->Act G k fs->∀(R:c8->ah->Prop),
 (∀r all h' tk,Act G r all->SB G r->Le k r->(∀x∈locs all,x∈locs fs\/k.h.get? x=aw)->m3 (locs all) r.h h'->R (.ok (.ret (.bool ai))) (sh G.b ⟨r.ρ,h',tk⟩))->dg (Md G.w) A (.call (.ref (G.X.jV j)) ⟨us,[]⟩) R (sh G.b k)
def zw(T:Tab)(r:Rec)(m:ae)(as:ab V):Rm (V×ab V):=opt (hI (bT 228).params as (bT 228).lz) λre=>opt (dr (bT 228).sc (tgS iw)) λxs=>b8 (b8 (la r (bT 228).sc (i5 iw) re) λi=>p7 r (bT 228).sc xs Pr m i re) λre=>b8 (r.ev (bT 228).sc (yb (i5 zv)) re) λf=>b8 (te r (bT 228).sc re (Ae (i5 zv))) λvs=>rt (f,vs)
theorem YK(hb:n<=b/\8<=b)(g:dH n r)(e:zw (gh r) (bg (gh r) N) m as σ=aa ((.fn j,vs),τ))(Q:n'<=b+2*N)(T:mv n' j vs τ):BI (b+2*N+1) 228 as σ:=λG u us k W S A fs RA M y RR q=>by
 refine ck λY=>?_;obtain⟨re,C,e⟩:=lb e;obtain⟨xs,Z,e⟩:=lb e;obtain⟨re1,σ1,e2,e⟩:=br e;obtain⟨f,DP,e3,e⟩:=br e;obtain⟨vs',Wy,e4,e⟩:=br e
 cases e
 have H:=g.TN u;obtain⟨I,U⟩:=pH H hb N;refine Y ?_;refine uJ H (⋯:(gh r).fn 228=aa (bT 228)) C W S (by have:=RA.depth;exact ri this) λ{o p k₁}F c i Hq cP=>?_
 have RD:el (A.deeper (cW p k.h.objs.size (G.X.jV 228))) (b+2*N):=RA.deep _;have kF:(cW p k.h.objs.size (G.X.jV 228)).kindOf qr=aa .globalImplicit:=by
  show p.scope.names.lookup qr=_;exact F.Ti▸ady
 have O:∀{k'},bY k₁.ρ k₁.h k'.ρ k'.h (cy (cW p k.h.objs.size (G.X.jV 228)))->Le k k' :=λg=>bY.drop c g cP;refine Um▸?_;refine ek (Pb (ek (BH H I.togw (bq hb.2 (bp ..)) abi.1 abi.2 (λR=>I.ex R) Z Hq e2 i RD (iT M) rfl e3 e4 (λus k' D S' R' E=>?_) λv s' k' D h=>?_)))
 ·exact T G u us k' E S' _ _ (RD.mark.less Q) (iT M) ((y.mono (O D)).cons rfl R')
 ·obtain⟨e,t,kr,all,rfl,f,a,P,l,d⟩:=h.from (O D)
  refine Ua u P a Hq.kind Hq.glob kF rfl f λs'' J=>?_;obtain⟨h',tk,rfl,tu⟩:=zi a J;refine q kr all h' tk a P l (λx hx=>?_) tu;rcases d x hx with z|z
  ·rcases aG.mp (show x∈_::locs fs from z) with rfl|z
   ·exact .inr (cP _ ax)
   ·exact .inl z
  ·exact .inr z
section
variable{o:ab V->Rm V}{σs:ae->St}{w s:V}{ds:ab (ab ae×V)}{L m:ae}{d:ab ae×V}
theorem HO(h:fP σ i=aa (aa (v,j)))(a:d9 xs j v re=aa re1)(b:r.ex sc body re1 σ=aa ((.next,e),σ1)):p7 r sc xs body (m+1) i re σ=p7 r sc xs body m j e σ1:=by
 show Aa i bW (λv j=>opt (d9 xs j v re) λre1=>b8 (r.ex sc body re1) λp=>Fl.casesOn p.1 (p7 r sc xs body m j p.2) λι=>bW) σ=_;unfold Aa;rw[h];show opt (d9 xs j v re) _ σ=_;refine a▸?_;exact cw (f:=λp=>Fl.casesOn p.1 (p7 r sc xs body m j p.2) λι=>bW) b
theorem HP(h:fP σ i=aa (aa (v,j)))(a:d9 xs j v re=aa re1):p7 r sc xs body 0 i re σ=aa (re1,σ):=by
 show Aa i bW (λv j=>opt (d9 xs j v re) λre1=>rt re1) σ=_;unfold Aa;rw[h];show opt (d9 xs j v re) _ σ=_;rw[a];rfl
theorem Pu(g:∀i,i<=m->(σs i).t.get L=aa (.list (cu (ds.map qa))))(e:∀i d,i<m->ds[i]? =aa d->∃v,o [w,d.2] (σs i)=aa (v,σs (i+1)))(b:ds[m]? =aa d):
  ∀(k i:ae)(re:aX),i+k=m->(re=qz w s\/∃q,re=u_ w s q)->p7 (bg (jM 215 o) 16) (bT 228).sc [enc (aL "part")] wm k (.kx L i) re (σs i)=aa (u_ w s (qa d),σs m):=by
 intro k
 induction k with
 |zero=>
  intro i re a h
  cases (show i=m from a)
  exact HP (by simp only[lP (g m (aF _)),ie,cL,b];rfl) (Dj _ _ _ h ⟨_,_,rfl⟩)
 |succ k f=>
  intro i re a h;have n:=(aV.mp b).1;have l:i<ds.length:=by lia
  have c:=az l;obtain⟨v,j⟩:=e i _ (by lia) c
  rw[HO (by simp only[lP (g i (ae.le.intro a)),ie,cL,c];rfl) (Dj _ _ _ h ⟨_,_,rfl⟩) (JP j)]
  exact f (i+1) _ (by lia) (.inr ⟨_,rfl⟩)
theorem Px:dr (bT 228).sc (tgS iw)=aa [enc (aL "part")]/\Pr=wm:=⟨⋯,⋯⟩
theorem FA{a:St}(h:la (bg (jM 215 o) 16) (bT 228).sc (i5 iw) (qz w s) a=aa (.kx L 0,σs 0))(g:∀i,i<=m->(σs i).t.get L=aa (.list (cu (ds.map qa))))(b:∀i d,i<m->ds[i]? =aa d->∃v,o [w,d.2] (σs i)=aa (v,σs (i+1)))(c:ds[m]? =aa d):
  zw (jM 215 o) (bg (jM 215 o) 16) m [w,s] a=aa ((.fn 215,[w,d.2]),σs m):=by
 unfold zw;rw[show hI (bT 228).params [w,s] (bT 228).lz=aa (qz w s) by kernel_rfl,Px.1,Px.2]
 exact(cw (f:=λre=>b8 ((bg (jM 215 o) 16).ev (bT 228).sc (yb (i5 zv)) re) λf=>b8 (te (bg (jM 215 o) 16) (bT 228).sc re (Ae (i5 zv))) λvs=>rt (f,vs)) ((cw h).trans (Pu g b c m 0 _ (dY m) (.inl rfl)))).trans (⋯)
end
theorem LF(C:(dG lab aq λι r=>r7 (bH 0) r)=aq)(D:Aj lab=aq)(e1:dI (qp (cT (dW lab) eA) as) (i6 (mapM (dW lab) eA) σ.t lab) dE=aa (as0,mu0))(E:qX mu0 .nil 0=aa t0)(b:BI n j as0 ⟨t0,eP mu0⟩):BI n j as σ:=λG HG us k F S A fs R H a I q=>by
 obtain⟨w1,T,J,L,M⟩:=dO (o:=qp (cT (dW lab) eA) as) e1
 cases M
 obtain⟨val,N,O,u⟩:=Pd (mN D) J L E F S;have v:∀i∈lab,i<k.ρ.length:=S.len▸val;refine b {G with X:=wf G.X (y9 k.ρ G.X.fv)} (HG.wf _) us ⟨sel k.ρ lab,k.h,k.tk⟩ u O A fs R H (λenv he=>?_) I λg all h' tk c S1 l1 d P=>?_
 ·obtain⟨l,m,s,y,w⟩:=a env he
  exact⟨l,m,s,λz=>y (C3 v z),w⟩
 ·have l1:bY (sel k.ρ lab) k.h g.ρ g.h []:=l1
  have old:=λ{p:aB×aB}(hp:p∈k.ρ)=>Pe S v l1 S1.nt S1.x4 hp;refine q ⟨k.ρ,g.h,g.tk⟩ all h' tk (λenv he=>?_) ⟨S1.base,rfl,λp hp=>(old hp).1,S.apart,λp hp us=>(old hp).2.1 us,λi o z=>(b6 (show(aw:ao MO)=aa o from z)),S1.pl,λp hp=>(old hp).2.2⟩ ⟨⟨[],(dj _).symm,λι hp=>sr hp⟩,λb o e n Q=>l1.mq b o e (λz=>n (aa8 C v z)) Q,l1.live⟩ d P
  obtain⟨l,m,s,y,w⟩:=c env he;refine⟨l,m,s,?_,w⟩;rcases d _ (cE he) with z|z
  ·obtain⟨f,x,e⟩:=bF.mp z
   exact e▸(a f x).2.2.2.1
  ·exact(S.cP z).1
def Ge(l:ab MO):TR:=(@cg MO (λι=>TR->ae->TR) (λt ι=>t) (λo ι h t i=>h (t.set i o) (ar i)) l) .nil 0
def gN(l:ab MO):St:=⟨Ge l,eP l⟩
noncomputable def wx:ab ae:=[100,111]
def jz:V:=jL [sB,kg]
def iH(way:ae)(asc:V):V:=cS (au way 2) (jL [sM,kg,Fy asc,jL [AG,LA]]) (jL [sT,kg,cS (au way 0) (jL [AG]) (jL [AG,LA])])
def kh(asc:V):V:=jL [sO,kg,Fy asc]
def i7:V:=jL [sGv,kg,jL [sG]]
def tM:V:=jL [sE,kg]
def dsA(way:ae)(asc:V):ab (ab ae×V):=cS (au way 2) [(wx,jz),(wx,iH way asc)] [(wx,jz),(wx,iH way asc),(wx,kh asc)]
def wy(way:ae)(asc:V):ab (ab ae×V):=dsA way asc++[(wx,i7),(wx,tM)]
def ptL(l:ab (ab ae×V)):MO:=.list (cu (l.map qa))
def psW(way:ae)(asc:V):ab MO:=[ptL (dsA way asc),ptL [(wx,i7)],ptL (dsA way asc++[(wx,i7)]),ptL [(wx,tM)],ptL (wy way asc)]
section
variable(a k s:ab ae)(w he:ae)(m:ab ae)(one two asc:V)(goal:MO)(o:ab V->Rm V)
def AH(m:ab ae)(he:ae)(r:MO):ab MO:=wq a w k s m (lO (.a4 59) (.a4 60) (.a4 61)) he r
def AI(way:ae)(W ex:ab MO):St:=gN (W++([.list one,.list two,goal]++(psW way asc++ex)))
theorem Py:la (bg (jM 215 o) 16) (bT 228).sc (i5 iw) (qz (.a4 50) (gk 0 asc)) (gN (AH a k s w m he mD++[.list one,.list two,goal]))=aa (.kx 66 0,AI one two asc goal 0 (AH a k s w m he mD) []):=⋯
theorem Pz:la (bg (jM 215 o) 16) (bT 228).sc (i5 iw) (qz (.a4 50) (gk 1 asc)) (gN (AH a k s w m he mD++[.list one,.list two,goal]))=aa (.kx 66 0,AI one two asc goal 1 (AH a k s w m he mD) []):=⋯
theorem PA:la (bg (jM 215 o) 16) (bT 228).sc (i5 iw) (qz (.a4 50) (gk 2 asc)) (gN (AH a k s w m he mD++[.list one,.list two,goal]))=aa (.kx 66 0,AI one two asc goal 2 (AH a k s w m he mD) []):=⋯
noncomputable def LG:ab ae:=bh 59
theorem tN(way:ae)(h:way=0\/way=1\/way=2):Good 129 215 [.a4 50,jz] (AI one two asc goal way (AH a k s w m he mD) []) (.str []) (AI one two asc goal way (AH a k s w m he (q5 67)) [sR 68 ai,.list .nil]):=by
 rcases h with rfl|rfl|rfl
 ·exact d8 (n:=0) (b:=8) (N:=60) (lab:=LG) (mu0:=wq a w k s m (lO (.gH 118) (.gH 120) (.gH 122)) he mD) (as0:=[.a4 50,jz]) ⟨bj _,aF _⟩ eQ (⋯) (wj a k s w he 118 120 122 m) (⋯)
 ·exact d8 (n:=0) (b:=8) (N:=60) (lab:=LG) (mu0:=wq a w k s m (lO (.gH 118) (.gH 120) (.gH 122)) he mD) (as0:=[.a4 50,jz]) ⟨bj _,aF _⟩ eQ (⋯) (wj a k s w he 118 120 122 m) (⋯)
 ·exact d8 (n:=0) (b:=8) (N:=60) (lab:=LG) (mu0:=wq a w k s m (lO (.gH 118) (.gH 120) (.gH 122)) he mD) (as0:=[.a4 50,jz]) ⟨bj _,aF _⟩ eQ (⋯) (wj a k s w he 118 120 122 m) (⋯)
end
noncomputable def i8:ab ae:=[1,0,2,3,5,7,9,10,12]
noncomputable def bu:ab (ae×ae):=i8.flatMap λn=>(bh (ar n)).map λk=>(k,mw n k)
section
variable(a k s r:ab ae)(w he q3:ae)(m f g:ae->ae)
def take1(k0 b:ae):ab MO:=wq a w k s (hU m r) (lO (.a4 61) (.a4 62) (.gH q3)) he (q5 59)++[sR 60 ai,.list .nil,.list (aC f k0),.list (aC g b)]
theorem LH:(bu.map λp=>p6 63 [] (lM T0 60 215 [.a4 50,jL [sT,kg,jL [AG,LA]]] (take1 a k s r w he q3 m f g p.1 p.2)))=
  bu.map λp=>aa (.str [],d6 [(53,.jv (hU (fZ (fZ m 0 f p.1) 3 g p.2) r)),(56,.dict .nil (ar (ar (ar (ar he))))),(60,.list (tc (aC f p.1) (aC g p.2)))] (take1 a k s r w he q3 m f g p.1 p.2),[]):=⋯
end
section
variable(a k s:ab ae)(w he:ae)(one two asc:V)(goal e1 e2 e3 e4:MO)(m f g:ae->ae)(r:ab ae)
def PB(m:ab ae)(he:ae)(t:MO):ab MO:=wq a w k s m (lO (.a4 59) (.a4 60) (.a4 70)) he t
theorem zx(way:ae)(h:way=0\/way=1\/way=2)(m:ab ae):Good 129 215 [.a4 50,tM] (AI one two asc goal way (PB a k s w m he (q5 67)) [e1,e2,e3,e4]) (.str []) (AI one two asc goal way (PB a k s w m he HM) [e1,e2,e3,e4]):=by
 rcases h with rfl|rfl|rfl
 ·exact d8 (n:=0) (b:=8) (N:=60) (lab:=LG) (mu0:=wq a w k s m (lO (.gH 118) (.gH 120) (.gH 140)) he (.dict (.cons (.cons kg (.gH 134)) .nil) 1)) (as0:=[.a4 50,tM]) ⟨bj _,aF _⟩ eQ (⋯) (Dh a k s w he 118 120 140 m 134) (⋯)
 ·exact d8 (n:=0) (b:=8) (N:=60) (lab:=LG) (mu0:=wq a w k s m (lO (.gH 118) (.gH 120) (.gH 140)) he (.dict (.cons (.cons kg (.gH 134)) .nil) 1)) (as0:=[.a4 50,tM]) ⟨bj _,aF _⟩ eQ (⋯) (Dh a k s w he 118 120 140 m 134) (⋯)
 ·exact d8 (n:=0) (b:=8) (N:=60) (lab:=LG) (mu0:=wq a w k s m (lO (.gH 118) (.gH 120) (.gH 140)) he (.dict (.cons (.cons kg (.gH 134)) .nil) 1)) (as0:=[.a4 50,tM]) ⟨bj _,aF _⟩ eQ (⋯) (Dh a k s w he 118 120 140 m 134) (⋯)
def q6(lab:ab ae)(as:ab V)(σ:St):ao (ab V×ab MO):=dI (qp (cT (dW lab) eA) as) (i6 (mapM (dW lab) eA) σ.t lab) dE
def s1A(k0:ae):St:=AI (aC f k0) two asc goal 0 (AH a k s w (hU m r) he (q5 67)) [sR 68 ai,.list .nil]
def s2A(k0:ae):St:=AI (aC f k0) two asc goal 0 (AH a k s w (hU (fZ m 0 f k0) r) (ar (ar he)) (q5 67)) [sR 68 ai,.list (aC f k0)]
noncomputable def YL:ab ae:=bh 59++[67,68,59]
def abj(k0:ae):ab (ae×MO):=[(53,.jv (hU (fZ m 0 f k0) r)),(56,.dict .nil (ar (ar he))),(60,.list (aC f k0))]
theorem LI:((bh 13).map λk0=>q6 YL [.a4 50,iH 0 asc] (s1A a k s w he two asc goal m f r k0))=(bh 13).map λk0=>aa ([.a4 50,iH 0 asc],JO a k s r w he 120 122 m f k0):=⋯
theorem HQ:((bh 13).map λk0=>j_ YL (λι ι=>aa (.str [],abj he m f r k0,[])) [.a4 50,iH 0 asc] (s1A a k s w he two asc goal m f r k0))=(bh 13).map λk0=>aa (.str [],s2A a k s w he two asc goal m f r k0):=⋯
theorem da{n k:ae}(h:k<n):k∈bh n:=aA ((rK n).2 k h)
theorem HR(k0:ae)(h:k0<13):Good 129 215 [.a4 50,iH 0 asc] (s1A a k s w he two asc goal m f r k0) (.str []) (s2A a k s w he two asc goal m f r k0):=by
 have c:=da h;have l:((bh 13).map λk0=>eP (JO a k s r w he 120 122 m f k0))=(bh 13).map λι=>62:=⋯;refine d8 (n:=0) (b:=8) (N:=60) (lab:=YL) (ups:=abj he m f r k0) (ks:=[]) ⟨bj _,aF _⟩ eQ (a5 (LI a k s w he two asc goal m f r) c) ?_ (a5 (HQ a k s w he two asc goal m f r) c);rw[a5 l c];exact a5 (LB a k s r w he 120 122 m f) c
end
section
variable(a k s:ab ae)(w he:ae)(asc:V)(goal:MO)(m f g:ae->ae)(r:ab ae)
def iI(p:ae×ae):V:=tc (aC f p.1) (aC g p.2)
def oP(p:ae×ae):ae->ae:=fZ (fZ m 0 f p.1) 3 g p.2
def s1B(p:ae×ae):St:=AI (aC f p.1) (aC g p.2) asc goal 1 (AH a k s w (hU m r) he (q5 67)) [sR 68 ai,.list .nil]
def s2B(p:ae×ae):St:=AI (aC f p.1) (aC g p.2) asc goal 1 (AH a k s w (hU (oP m f g p) r) (ar (ar (ar (ar he)))) (q5 67)) [sR 68 ai,.list (iI f g p)]
noncomputable def LJ:ab ae:=bh 59++[67,68,59,60]
def Ub(p:ae×ae):ab (ae×MO):=[(53,.jv (hU (oP m f g p) r)),(56,.dict .nil (ar (ar (ar (ar he))))),(60,.list (iI f g p))]
theorem LK:(bu.map λp=>q6 LJ [.a4 50,iH 1 asc] (s1B a k s w he asc goal m f g r p))=bu.map λp=>aa ([.a4 50,iH 1 asc],take1 a k s r w he 122 m f g p.1 p.2):=⋯
theorem HS:(bu.map λp=>j_ LJ (λι ι=>aa (.str [],Ub he m f g r p,[])) [.a4 50,iH 1 asc] (s1B a k s w he asc goal m f g r p))=bu.map λp=>aa (.str [],s2B a k s w he asc goal m f g r p):=⋯
theorem HT(p:ae×ae)(h:p∈bu):Good 129 215 [.a4 50,iH 1 asc] (s1B a k s w he asc goal m f g r p) (.str []) (s2B a k s w he asc goal m f g r p):=by
 have l:(bu.map λp=>eP (take1 a k s r w he 122 m f g p.1 p.2))=bu.map λι=>63:=⋯;refine d8 (n:=0) (b:=8) (N:=60) (lab:=LJ) (ups:=Ub he m f g r p) (ks:=[]) ⟨bj _,aF _⟩ eQ (a5 (LK a k s w he asc goal m f g r) h) ?_ (a5 (HS a k s w he asc goal m f g r) h);rw[a5 l h];exact a5 (LH a k s r w he 122 m f g) h
end
def mG(c:Cfg)(m h:ae->ae)(n:ae):ae->ae:=@eb (λι=>ae->ae) (cS c.s (Pn m (aM 13 c.w) [48,48]) m) (λi a=>adx c a (og h i) (ar i)) n
def AJ(h:ae->ae)(n:ae):V:=adw (λk=>qH (og h k) [32]) n
section
variable(he q1 q2 q3:ae)(m h:ae->ae)
def give(c:Cfg)(n:ae):ab MO:=wq c.a c.w c.key c.st (jK m (aM 15 c.w)) (lO (.gH q1) (.gH q2) (.gH q3)) he (q5 59)++[sR 60 aq,.list (aC h n)]
def kq(c:Cfg):ab ae:=cS (au (lim c) 9) [1,0,2,3,5,7,9] i8
def PC(c:Cfg)(n:ae):ao (V×ab MO×ab MO):=p6 61 [63] (lM (T1 c.w) 60 215 [.a4 50,jL [sGv,kg,jL [sG]]] (give he q1 q2 q3 m h c n))
def PD(c:Cfg)(n:ae):ao (V×ab MO×ab MO):=aa (.str [],d6 [(53,.jv (jK (mG c m h n) (aM 15 c.w))),(49,lO (.gH q1) (.gH q2) (.a4 61)),(56,.dict .nil (ar (ar he)))] (give he q1 q2 q3 m h c n),[.dict (AJ h n) (ar n)])
def jA(l:ab Cfg):Prop:=(l.map λc=>(kq c).map (PC he q1 q2 q3 m h c))=l.map λc=>(kq c).map (PD he q1 q2 q3 m h c)
theorem abk:jA he q1 q2 q3 m h ((fL.drop 0).take 4):=by unfold jA;kernel_rfl
theorem abl:jA he q1 q2 q3 m h ((fL.drop 4).take 2):=by unfold jA;kernel_rfl
theorem abm:jA he q1 q2 q3 m h ((fL.drop 6).take 2):=by unfold jA;kernel_rfl
theorem abn:jA he q1 q2 q3 m h ((fL.drop 8).take 2):=by unfold jA;kernel_rfl
theorem abo:jA he q1 q2 q3 m h ((fL.drop 10).take 2):=by unfold jA;kernel_rfl
theorem abp:jA he q1 q2 q3 m h ((fL.drop 12).take 2):=by unfold jA;kernel_rfl
theorem abq:jA he q1 q2 q3 m h ((fL.drop 14).take 2):=by unfold jA;kernel_rfl
end
section
variable(he:ae)(one two asc old:V)(goal:MO)(m h:ae->ae)
def s3(way:ae)(c:Cfg)(n:ae):St:=AI one two asc goal way (AH c.a c.key c.st c.w (jK m (aM 15 c.w)) he (q5 67)) [sR 69 aq,.list old,.list (aC h n)]
def s4(way:ae)(c:Cfg)(n:ae):St:=AI one two asc goal way (PB c.a c.key c.st c.w (jK (mG c m h n) (aM 15 c.w)) (ar (ar he)) (q5 67)) [sR 69 aq,.list old,.list (aC h n),.dict (AJ h n) (ar n)]
def YM:ab ae:=bh 59++[67,69]
def abr(c:Cfg)(n:ae):ab (ae×MO):=[(53,.jv (jK (mG c m h n) (aM 15 c.w))),(49,lO (.gH 118) (.gH 120) (.a4 61)),(56,.dict .nil (ar (ar he)))]
def HU(way:ae):Prop:=(fL.map λc=>(kq c).map λn=>q6 YM [.a4 50,i7] (s3 he one two asc old goal m h way c n))=fL.map λc=>(kq c).map λn=>aa ([.a4 50,i7],give he 118 120 122 m h c n)
def zy(way:ae):Prop:=(fL.map λc=>(kq c).map λn=>j_ YM (λι ι=>aa (.str [],abr he m h c n,[.dict (AJ h n) (ar n)])) [.a4 50,i7] (s3 he one two asc old goal m h way c n))=fL.map λc=>(kq c).map λn=>aa (.str [],s4 he one two asc old goal m h way c n)
theorem adz:HU he one two asc old goal m h 0:=by unfold HU;kernel_rfl
theorem adA:HU he one two asc old goal m h 1:=by unfold HU;kernel_rfl
theorem adB:HU he one two asc old goal m h 2:=by unfold HU;kernel_rfl
theorem abt:zy he one two asc old goal m h 0:=by unfold zy;kernel_rfl
theorem abu:zy he one two asc old goal m h 1:=by unfold zy;kernel_rfl
theorem abv:zy he one two asc old goal m h 2:=by unfold zy;kernel_rfl
theorem kU(a:c∈fL):c.w∈[1,2]:=by
 have h:(fL.all λc=>(au c.w 1).rec (au c.w 2) aq)=aq:=⋯;have:=qg.mp h c a
 induction e:au c.w 1 with
 |true=>rw[ay e];exact ax|false=>rw[e]at this;rw[ay this];exact aK _ ax
theorem cN{α c d:Type}{f g:α->c->d}{k:α->ab c}{l:ab α}(e:(l.map λa=>(k a).map (f a))=l.map λa=>(k a).map (g a)){a:α}(i:a∈l){b:c}(hb:b∈k a):f a b=g a b:=a5 (a5 e i) hb
theorem Un(c:Cfg)(a:c∈fL)(n:ae)(f:n∈kq c)(q b d:ae):PC he q b d m h c n=PD he q b d m h c n:=by
 have s:fL=(fL.drop 0).take 4++((fL.drop 4).take 2++((fL.drop 6).take 2++((fL.drop 8).take 2++((fL.drop 10).take 2++((fL.drop 12).take 2++(fL.drop 14).take 2))))):=⋯;rw[s]at a;have go:∀{l:ab Cfg},jA he q b d m h l->c∈l->PC he q b d m h c n=PD he q b d m h c n:=λe a=>cN e a f
 repeat (rcases bE.mp a with a|a;first|exact go (abk ..) a|exact go (abl ..) a|exact go (abm ..) a|exact go (abn ..) a|exact go (abo ..) a|exact go (abp ..) a)
 exact go (abq ..) a
theorem wz(way:ae)(w:way=0\/way=1\/way=2)(c:Cfg)(a:c∈fL)(n:ae)(d:n∈kq c):Good 258 215 [.a4 50,i7] (s3 he one two asc old goal m h way c n) (.str []) (s4 he one two asc old goal m h way c n):=by
 have l:(fL.map λc=>(kq c).map λn=>eP (give he 118 120 122 m h c n))=fL.map λc=>(kq c).map λι=>61:=⋯;have go:∀way,HU he one two asc old goal m h way->zy he one two asc old goal m h way->Good 258 215 [.a4 50,i7] (s3 he one two asc old goal m h way c n) (.str []) (s4 he one two asc old goal m h way c n):=λway e f=>by
  refine Good.more (n:=129+2*60+1) (d8 (n:=129) (b:=129) (N:=60) (lab:=YM) (ups:=abr he m h c n) (ks:=[63]) ⟨aF _,by decide⟩ (u7 (kU a)) (cN e a d) ?_ (cN f a d)) (by decide)
  rw[cN l a d];exact Un he m h c a n d 118 120 122
 rcases w with rfl|rfl|rfl
 ·exact go 0 (adz ..) (abt ..)
 ·exact go 1 (adA ..) (abu ..)
 ·exact go 2 (adB ..) (abv ..)
end
def dK(r:ab ae):ae:=dG r 0 λa ι=>bz a 256
def YN(asc:aE):ab ae:=cS asc (bh 256) (bh 256).reverse
def iy(asc:aE)(rs:ab (ab ae)):ab (ab ae):=(YN asc).flatMap λc=>rs.filter λr=>au (dK r) c
def gy(asc:aE)(x y:ae):aE:=cS asc (bH x y) (bH y x)
def g6(asc:aE)(xs:ab (ab ae)):ab (ab ae)->ab (ab ae):=@cg (ab ae) (λι=>ab (ab ae)->ab (ab ae)) (λys=>ys)
 (λx r h ys=>(@cg (ab ae) (λι=>ab (ab ae)) (x::r) (λy s i=>cS (gy asc (dK y) (dK x)) (y::i) (x::h (y::s))) ys:ab (ab ae))) xs
def YO(h:V):ao (ab ae):=ir (fB h (λl=>eB (au (ji l) 3) (rt l)) ⟨.nil,0⟩) Xi
noncomputable def abw:ab ae:=[97,108,112,104,97,110,117,109,101,114,105,99]
noncomputable def f'(l:ab (ab ae))(i:ae):ae:=(l.flatMap id).getD i 0
def AK(l:ab (ab ae)):ae:=@cg (ab ae) (λι=>ae) 0 (λι ι n=>ar n) l
def bC(f:ae->ae)(n:ae):ab (ab ae):=@eb (λι=>ae->ab (ab ae)) (λι=>[]) (λι i k=>og f k::i (ar k)) n 0
def dq(l:ab (ab ae)):V:=cu (l.map V.eN)
noncomputable def mH:MO:=.inst 8 [(25607876935081226873,.str abw),(6231259749,.int 1),(103698667306054245,.none),(1603958564709,.str [100,105,115,112,108,97,121]),(6231254894,.str [116,114,97,105,108,105,110,103]),(436967053782273994518525029,.bool ai),(111863565603395232715042809188,.bool ai),(28637072756522928292057112212079,.bool ai),(391878846018675,.int 0),(1595100195941,.int 0),(6667588100942841406820,.bool ai)]
noncomputable def mI(asc:aE)(q:ae):V:=.tup (.cons (.bool asc) (.cons (.int 0) (.cons (.a4 q) .nil)))
def kxQ{α:Type}(K:ae)(f:ae->ae->aE->Rm α)(asc:aE)(c:V):Rm α:=jh c λq o=>eB (HL [o] [mH]) (eB (dU (au K q)) (eB (bH 0 q) (f K q asc)))
def Uo{α:Type}(v:V)(c:Rm α):Rm α:=opt (isNil v) λt=>eB t c
def kxC{α:Type}(g:V->Rm α)(v:V):Rm α:=pairD v bW λc w=>Uo w (g c)
def kxB{α:Type}(g:V->Rm α)(u:V):Rm α:=pairD u bW λb v=>ei b λo=>eB (au o 0) (kxC g v)
def kxA{α:Type}(g:aE->V->Rm α)(t:V):Rm α:=pairD t bW λa u=>vC a λasc=>kxB (g asc) u
def kxP{α:Type}(g:aE->V->Rm α)(l:V):Rm α:=pairD l bW λe r=>Uo r (mn e (kxA g))
def va{α:Type}(k:V)(f:ae->ae->aE->Rm α):Rm α:=cb k λK l=>kxP (kxQ K f) l
def q7(v:V):ao (ab (ab ae)):=@V.rec (λι=>ao (ab (ab ae))) aw (λι=>aw) (λι=>aw) (λι=>aw) (λι=>aw) (aa [])
 (λh ι ι i=>dI (YO h) i cQ) (λι ι=>aw) (λι=>aw) (λι=>aw) (λι=>aw) (λι=>aw) (λι=>aw) v
def HV(l:ab V->St->ao (ab ae))(F:OF)(as:ab V):Rm V:=λσ=>@bl (ab ae) (λι=>ao (V×St)) aw (λlab=>j_ lab F as σ) (l as σ)
def only(k:ae)(o:ab V->Rm V)(j:ae)(as:ab V):Rm V:=cS (au j k) (o as) bW
def YP{α:Type}(c:Rm α)(σ:St):ao α:=ir (c σ) Xi
def YQ{α:Type}(v:V)(f:ae->Rm α):Rm α:=jh v λn ι=>f n
def YR{α:Type}(k:V)(f:ae->ae->Rm α):Rm α:=cb k λK l=>pairD l bW λe ι=>mn e λt=>pairD t bW λι u=>pairD u bW λι v=>pairD v bW λc ι=>YQ c (f K)
def Up{α:Type}(as:ab V)(f:V->V->V->Rm α):Rm α:=dG as bW λa r=>dG r bW λb s=>dG s bW λc t=>dG t (f a b c) λι ι=>bW
def YS(as:ab V):St->ao (ab ae):=YP (Up as λa b k=>YR k λK q=>YQ a λx=>YQ b λy=>rt [K,q,x,y])
def PE(as:ab V):St->ao (ab ae):=YP (ue as λa k=>cb a λL l=>pairD l bW λx r=>pairD r bW λy ι=>YR k λK q=>YQ x λx=>YQ y λy=>rt [L,K,q,x,y])
def YT(l:V)(n:ae){α:Type}(c:Rm α):Rm α:=YQ l λk=>eB (au k n) c
def PF(a b:V){α:Type}(f:ab (ab ae)->ab (ab ae)->Rm α):Rm α:=cb a λι l=>cb b λι l1=>opt (q7 l) λr=>opt (q7 l1) λc=>eB (cf (aM (AK r) (AK c)) 12) (f r c)
def four{e:Type}(l:ab MO)(f:MO->MO->MO->MO->ao e):ao e:=dG l aw λa r=>dG r aw λb r=>dG r aw λc r=>dG r aw λd r=>dG r (f a b c d) λι ι=>aw
def abx{a:Type}(l:ab MO)(f:MO->MO->MO->MO->MO->ao a):ao a:=dG l aw λe r=>four r (f e)
abbrev OX:=V×ab (ae×MO)×ab MO
def YU(n:ae)(asc:aE)(r a:ab (ab ae)):Rm OX:=rt (.a4 n,[],[.list (aC (f' (g6 asc r a)) (aM (AK r) (AK a)))])
def Wz(K q:ae)(asc:aE):Rm OX:=eB (au K 0) (eB (au q 1) (PF (.a4 2) (.a4 3) (YU 4 asc)))
def aby(x y z:V):Rm OX:=YT x 2 (YT y 3 (va z Wz))
def YV:OF:=λas mu=>four mu λa b c d=>YP (Up as aby) (gN [a,b,c,d])
def WA(asc:aE)(l:V):Rm OX:=pairD l bW λu r=>pairD r bW λv r=>Uo r (YT u 3 (YT v 4 (PF (.a4 3) (.a4 4) (YU 5 asc))))
def WB(K q:ae)(asc:aE):Rm OX:=eB (au K 1) (eB (au q 2) (cb (.a4 0) λι l=>WA asc l))
def abz(x z:V):Rm OX:=YT x 0 (va z WB)
def Uq:OF:=λas mu=>abx mu λe a b c d=>YP (ue as abz) (gN [e,a,b,c,d])
def HW(r:ab ae):ae:=dG r 0 λι s=>dG s 0 λa t=>dG t 0 λb ι=>aM (bP 256 (bz a 256)) (bz b 256)
def lQ(r:ae->ae)(j:ae):ae:=qG (bz j 3) (r (gC j 3)) λk=>qG k (aM 48 (gC (gC j 3) 10)) λι=>aM 48 (bz (gC j 3) 10)
def YW(as:ab V):St->ao (ab ae):=YP (ue as λa k=>YR k λK q=>YQ a λx=>rt [x,K,q])
def three{d:Type}(l:ab MO)(f:MO->MO->MO->ao d):ao d:=dG l aw λa r=>dG r aw λb r=>dG r aw λc r=>dG r (f a b c) λι ι=>aw
def WC(asc:aE)(r:ab (ab ae)):Rm OX:=eB (cf (AK r) 12) (eB (Aj (r.map HW)) (rt (.a4 3,[],[.list (aC (f' (iy asc r)) (AK r))])))
def WD(K q:ae)(asc:aE):Rm OX:=eB (au K 1) (eB (au q 2) (cb (.a4 0) λι l=>opt (q7 l) (WC asc)))
def abA(x z:V):Rm OX:=YT x 0 (va z WD)
def Ur:OF:=λas mu=>three mu λa b c=>YP (ue as abA) (gN [a,b,c])
def lR(j:ae)(as:ab V):Rm V:=cS (au j 196) (HV YW Ur as) (cS (au j 199) (HV PE Uq as) bW)
def vb(f:ae->ae)(n k:ae):ab (ab ae):=@eb (λι=>ae->ab (ab ae)) (λι=>[]) (λι i k=>og f k::i (ar k)) n k
theorem iQ(f:ae->ae)(n:ae):aC f n=dq (bC f n):=by
 have h:∀n k,(@eb (λι=>ae->V) (λι=>.nil) (λι i k=>.cons (.eN [f (bP 3 k),f (ar (bP 3 k)),f (ar (ar (bP 3 k)))]) (i (ar k))) n k:V)=dq (vb f n k):=by
  intro n
  induction n with
  |zero=>intro k;rfl|succ n i=>intro k;exact aY (V.cons _) (i (ar k))
 exact h n 0
theorem LL(h:aC f n=aC g n):bC f n=bC g n:=by
 rw[iQ,iQ]at h;exact(ab.map_inj_right λa b e=>V.eN.inj e).mp (rR h)
def T2:Tab:=gh lR
section
variable(a k s:ab ae)(w he q1 q2 q3:ae)(m:ab ae)(f g:ae->ae)(r:ab ae)(m' :ae->ae)(asc:aE)
def ord(n:ae):ab MO:=wq a w k s m (lO (.gH q1) (.gH q2) (.gH q3)) he (q5 59)++[sR 60 ai,.list (aC f n)]
theorem LM:((bh 13).map λn=>p6 61 [77] (lM T2 60 215 [.a4 50,kh (.bool asc)] (ord a k s w he q1 q2 q3 m (lQ f) n)))=
  (bh 13).map λn=>aa (.str [],d6 [(59,sR 61 aq)] (ord a k s w he q1 q2 q3 m (lQ f) n),[.list (aC (f' (iy asc (bC (lQ f) n))) n)]):=⋯
def mrg(p:ae×ae):ab MO:=wq a w k s (hU m' r) (lO (.a4 61) (.a4 62) (.gH q3)) he (q5 59)++[sR 60 ai,.list .nil,.list (aC f p.1),.list (aC g p.2)]
def wA(l:ab (ae×ae)):Prop:=(l.map λp=>p6 63 [aM 114 (bP 6 (aM p.1 p.2))] (lM T2 60 215 [.a4 50,iH 2 (.bool asc)] (mrg a k s w he q3 f g r m' p)))=
  l.map λp=>aa (.str [],d6 [(53,.jv (hU (fZ (fZ m' 0 f p.1) 3 g p.2) r)),(56,.dict .nil (ar (ar (ar (ar he))))),(59,sR 63 aq),(60,.list (tc (aC f p.1) (aC g p.2)))] (mrg a k s w he q3 f g r m' p),[.list (aC (f' (g6 asc (bC f p.1) (bC g p.2))) (aM p.1 p.2))])
end
section
variable(a k s:ab ae)(w he q3:ae)(f g:ae->ae)(r:ab ae)(m' :ae->ae)(asc:aE)
theorem Dk(h:wA a k s w he q3 f g r m' asc l)(h' :wA a k s w he q3 f g r m' asc b):wA a k s w he q3 f g r m' asc (l++b):=by
 unfold wA at*;rw[rj,rj,h,h']
theorem abB:wA a k s w he q3 f g r m' asc (bu.take 20):=by unfold wA;kernel_rfl
theorem abC:wA a k s w he q3 f g r m' asc ((bu.drop 20).take 14):=by unfold wA;kernel_rfl
theorem abD:wA a k s w he q3 f g r m' asc ((bu.drop 34).take 13):=by unfold wA;kernel_rfl
theorem abE:wA a k s w he q3 f g r m' asc (bu.drop 47):=by unfold wA;kernel_rfl
theorem LN:bu=bu.take 20++((bu.drop 20).take 14++((bu.drop 34).take 13++bu.drop 47)):=⋯
theorem Us:wA a k s w he q3 f g r m' asc bu:=LN▸Dk a k s w he q3 f g r m' asc (abB a k s w he q3 f g r m' asc) (Dk a k s w he q3 f g r m' asc (abC a k s w he q3 f g r m' asc) (Dk a k s w he q3 f g r m' asc (abD a k s w he q3 f g r m' asc) (abE a k s w he q3 f g r m' asc)))
end
section
variable(a k s:ab ae)(w he:ae)(one two:V)(asc:aE)(goal:MO)(m' f g:ae->ae)(m r:ab ae)
def YX:ab ae:=bh 59++[67,68]
def HY(way n:ae):St:=AI one two (.bool asc) goal way (AH a k s w m he (q5 67)) [sR 68 ai,.list (aC f n)]
def AL(way:ae)(old:V)(n:ae):St:=AI one two (.bool asc) goal way (AH a k s w m he (q5 67)) [sR 69 aq,.list old,.list (aC f n)]
def eE(n:ae):ae->ae:=f' (iy asc (bC f n))
def zA(p:ae×ae):ae->ae:=f' (g6 asc (bC f p.1) (bC g p.2))
def PG(way:ae):Prop:=((bh 13).map λn=>q6 YX [.a4 50,kh (.bool asc)] (HY a k s w he one two asc goal f m way n))=(bh 13).map λn=>aa ([.a4 50,kh (.bool asc)],ord a k s w he 118 120 122 m f n)
def FC(way:ae):Prop:=((bh 13).map λn=>j_ YX (λι ι=>aa (.str [],[(59,sR 61 aq)],[.list (aC (f' (iy asc (bC f n))) n)])) [.a4 50,kh (.bool asc)] (HY a k s w he one two asc goal f m way n))=
  (bh 13).map λn=>aa (.str [],AL a k s w he one two asc goal (eE asc f n) m way (aC f n) n)
theorem abF:PG a k s w he one two asc goal f m 0:=by unfold PG;kernel_rfl
theorem abG:PG a k s w he one two asc goal f m 1:=by unfold PG;kernel_rfl
theorem YY:FC a k s w he one two asc goal f m 0:=by unfold FC;kernel_rfl
theorem YZ:FC a k s w he one two asc goal f m 1:=by unfold FC;kernel_rfl
theorem FD(ok:dH 129 lR)(ro:ae->ae)(way:ae)(c:way=0\/way=1)(n:ae)(d:n<13):Good 258 215 [.a4 50,kh (.bool asc)] (HY a k s w he one two asc goal (lQ ro) m way n) (.str []) (AL a k s w he one two asc goal (eE asc (lQ ro) n) m way (aC (lQ ro) n) n):=by
 have h:=da d;have l:((bh 13).map λn=>eP (ord a k s w he 118 120 122 m (lQ ro) n))=(bh 13).map λι=>61:=⋯;have go:∀way,PG a k s w he one two asc goal (lQ ro) m way->FC a k s w he one two asc goal (lQ ro) m way->Good 258 215 [.a4 50,kh (.bool asc)] (HY a k s w he one two asc goal (lQ ro) m way n) (.str []) (AL a k s w he one two asc goal (eE asc (lQ ro) n) m way (aC (lQ ro) n) n):=λway e i=>by
  refine Good.more (n:=129+2*60+1) (d8 (n:=129) (b:=129) (N:=60) (lab:=YX) (ups:=[(59,sR 61 aq)]) (ks:=[77]) ⟨aF _,by decide⟩ ok (a5 e h) ?_ (a5 i h)) (by decide)
  rw[a5 l h];exact a5 (LM a k s w he 118 120 122 m ro asc) h
 rcases c with rfl|rfl
 ·exact go 0 (abF ..) (YY ..)
 ·exact go 1 (abG ..) (YZ ..)
theorem zE(ok:dH 129 lR)(way:ae)(h:way=0\/way=1)(n:ae)(b:n<13)(hf:aC f n=aC (lQ ro) n):Good 258 215 [.a4 50,kh (.bool asc)] (HY a k s w he one two asc goal f m way n) (.str []) (AL a k s w he one two asc goal (eE asc f n) m way (aC f n) n):=by
 have g:=FD a k s w he one two asc goal m ok ro way h n b;unfold HY at g⊢;unfold eE at g⊢;rw[<-LL hf,<-hf]at g;exact g
def s1C(p:ae×ae):St:=AI (aC f p.1) (aC g p.2) (.bool asc) goal 2 (AH a k s w (hU m' r) he (q5 67)) [sR 68 ai,.list .nil]
noncomputable def HZ(he:ae):ae:=ar (ar (ar (ar he)))
def s2C(p:ae×ae):St:=AL a k s w (HZ he) (aC f p.1) (aC g p.2) asc goal (zA asc f g p) (hU (oP m' f g p) r) 2 (iI f g p) (aM p.1 p.2)
def abH(p:ae×ae):ab (ae×MO):=[(53,.jv (hU (fZ (fZ m' 0 f p.1) 3 g p.2) r)),(56,.dict .nil (ar (ar (ar (ar he))))),(59,sR 63 aq),(60,.list (tc (aC f p.1) (aC g p.2)))]
def nwM(p:ae×ae):ab MO:=[.list (aC (f' (g6 asc (bC f p.1) (bC g p.2))) (aM p.1 p.2))]
theorem Ut:(bu.map λp=>q6 LJ [.a4 50,iH 2 (.bool asc)] (s1C a k s w he asc goal m' f g r p))=bu.map λp=>aa ([.a4 50,iH 2 (.bool asc)],mrg a k s w he 122 f g r m' p):=⋯
theorem PH:(bu.map λp=>j_ LJ (λι ι=>aa (.str [],abH he m' f g r p,nwM asc f g p)) [.a4 50,iH 2 (.bool asc)] (s1C a k s w he asc goal m' f g r p))=bu.map λp=>aa (.str [],s2C a k s w he asc goal m' f g r p):=⋯
theorem H0(ok:dH 129 lR)(p:ae×ae)(h:p∈bu):Good 258 215 [.a4 50,iH 2 (.bool asc)] (s1C a k s w he asc goal m' f g r p) (.str []) (s2C a k s w he asc goal m' f g r p):=by
 have l:(bu.map λp=>eP (mrg a k s w he 122 f g r m' p))=bu.map λι=>63:=⋯;refine Good.more (n:=129+2*60+1) (d8 (n:=129) (b:=129) (N:=60) (lab:=LJ) (ups:=abH he m' f g r p) (nw:=nwM asc f g p) (ks:=[aM 114 (bP 6 (aM p.1 p.2))]) ⟨aF _,by decide⟩ ok (a5 (Ut a k s w he asc goal m' f g r) h) ?_ (a5 (PH a k s w he asc goal m' f g r) h)) (by decide)
 rw[a5 l h];exact a5 (Us a k s w he 122 f g r m' asc) h
end
noncomputable def zF(sts:ab St)(i:ae):St:=sts.getD i ⟨.nil,0⟩
theorem Dl(k:8<=n){ds:ab (ab ae×V)}{sts:ab St}{tg:V->ab ae}{ts:ab (ab ae)}(j:ds.length=ts.length)(l:ts.length<90)(p:(ds.map λd=>tg d.2)=ts)(q:ts.Nodup)(r:∀o,la (bg (jM 215 o) 16) (bT 228).sc (i5 iw) (qz w s) a=aa (.kx L 0,zF sts 0))(v:sts.length=ts.length+1)(u:(sts.map λσ=>σ.t.get L)=sts.map λι=>aa (.list (cu (ds.map qa))))(hG:∀i d,ds[i]? =aa d->Good n 215 [w,d.2] (zF sts i) (.str []) (zF sts (i+1))):Good (n+2*18+1) 228 [w,s] a (.bool aq) (zF sts ts.length):=by
 rw[<-j];refine Ul k (lt_of_eq_of_lt j l) ?_ r (λi z=>?_) hG
 ·subst p
  refine(et.mp ?_:ab.Pairwise (λx y=>tg x≠tg y) (ds.map (·.2))).imp λh e=>h (aY tg e);rw[fz];exact q
 ·have b:i<sts.length:=by lia
  have e:zF sts i=sts[i]:=by unfold zF;rw[cx,az b];rfl
  rw[e];exact a5 u (lW _)
def iX(v:V):ab ae:=optN (mn v (λt=>opt (z' t 0) λx=>hH x rt) ⟨.nil,0⟩)
where optN (o:ao (ab ae×St)):ab ae:=@bl (ab ae×St) (λι=>ab ae) [] (λp=>p.1) o
def t7(m:ae->ae)(w:ae):ab ae:=cS (au w 1) [m 13,m 14,m 15] [m 13,m 14,m 15,m 16]
def joinM(m t:ae->ae)(i:ae):ae:=cS (bH i 13) (m i) (t i)
theorem rV(a:w∈[1,2])(m t:ae->ae):hU m (t7 t w)=jK (joinM m t) (aM 15 w):=by
 have h:([1,2].map λw=>hU m (t7 t w))=[1,2].map λw=>jK (joinM m t) (aM 15 w):=⋯;exact a5 h a
section
variable(c:Cfg)(he n:ae)(asc:aE)(two:V)(goal:MO)(m t f g:ae->ae)
def LO(one two:V)(M:ab ae):St:=gN (AH c.a c.key c.st c.w M he mD++[.list one,.list two,goal])
def LP(way:ae)(one two old:V)(M:ae->ae)(h:ae->ae):St:=AI one two (.bool asc) goal way (PB c.a c.key c.st c.w (jK (mG c M h n) (aM 15 c.w)) (ar (ar he)) HM) [sR 69 aq,.list old,.list (aC h n),.dict (AJ h n) (ar n)]
noncomputable def HI(he:ae):ae:=ar (ar he)
def PI(he:ae):ab St:=[AI (aC f n) two (.bool asc) goal 0 (AH c.a c.key c.st c.w (hU m (t7 t c.w)) he mD) [],s1A c.a c.key c.st c.w he two (.bool asc) goal m f (t7 t c.w) n,s2A c.a c.key c.st c.w he two (.bool asc) goal m f (t7 t c.w) n,
 AL c.a c.key c.st c.w (HI he) (aC f n) two asc goal (eE asc f n) (hU (fZ m 0 f n) (t7 t c.w)) 0 (aC f n) n]
theorem PJ(ok:dH 129 lR)(hf:aC f n=aC (lQ ro) n)(a:n<13):∀i d,i<3->(wy 0 (.bool asc))[i]? =aa d->Good 258 215 [.a4 50,d.2] (zF (PI c n asc two goal m t f he) i) (.str []) (zF (PI c n asc two goal m t f he) (i+1)):=by
 intro i d b h
 match i with
 |0=>cases (⋯:(wy 0 (.bool asc))[0]? =aa (wx,jz)).symm.trans h;exact(tN _ _ _ _ _ _ _ _ _ _ 0 (.inl rfl)).more (by decide)|1=>cases (⋯:(wy 0 (.bool asc))[1]? =aa (wx,iH 0 (.bool asc))).symm.trans h;exact(HR _ _ _ _ _ _ _ _ _ _ _ n a).more (by decide)|2=>cases (⋯:(wy 0 (.bool asc))[2]? =aa (wx,kh (.bool asc))).symm.trans h;exact zE _ _ _ _ _ _ _ _ _ _ _ ok 0 (.inl rfl) n a hf|j+3=>lia
theorem WE(h:c.w∈[1,2]):zF (PI c n asc two goal m t f he) 3=s3 (HI he) (aC f n) two (.bool asc) (aC f n) goal (joinM (fZ m 0 f n) t) (eE asc f n) 0 c n:=by
 show AL _ _ _ _ _ _ _ _ _ _ (hU (fZ m 0 f n) (t7 t c.w)) _ _ _=_;rw[rV h];rfl
theorem LQ(ok:dH 129 lR){ro:ae->ae}(hf:aC f n=aC (lQ ro) n)(k:c∈fL)(l:n∈kq c)(b:n<13):
  Good 295 228 [.a4 50,gk 0 (.bool asc)] (LO c he goal (aC f n) two (hU m (t7 t c.w))) (.bool aq) (LP c (HI he) n asc goal 0 (aC f n) two (aC f n) (joinM (fZ m 0 f n) t) (eE asc f n)):=by
 have p:=kU k;refine Dl (n:=258) (ds:=wy 0 (.bool asc)) (L:=66) (tg:=iX) (ts:=[iX jz,iX (iH 0 .none),iX (kh .none),iX i7,iX tM])
  (sts:=PI c n asc two goal m t f he++[s4 (HI he) (aC f n) two (.bool asc) (aC f n) goal (joinM (fZ m 0 f n) t) (eE asc f n) 0 c n,
   LP c (HI he) n asc goal 0 (aC f n) two (aC f n) (joinM (fZ m 0 f n) t) (eE asc f n)]) (by decide) (⋯) (by decide) (⋯) (by decide) ?_ rfl (⋯) ?_
 ·exactλo=>Py c.a c.key c.st c.w he (hU m (t7 t c.w)) (aC f n) two (.bool asc) goal o
 ·intro i d h
  have e:=PJ c he n asc two goal m t f ok hf b
  match i with
  |0=>exact e 0 d (by decide) h|1=>exact e 1 d (by decide) h|2=>exact e 2 d (by decide) h|3=>
   cases (⋯:(wy 0 (.bool asc))[3]? =aa (wx,i7)).symm.trans h
   have g:=wz (HI he) (aC f n) two (.bool asc) (aC f n) goal (joinM (fZ m 0 f n) t) (eE asc f n) 0 (.inl rfl) c k n l;rw[<-WE c he n asc two goal m t f p]at g;exact g
  |4=>cases (⋯:(wy 0 (.bool asc))[4]? =aa (wx,tM)).symm.trans h;exact(zx _ _ _ _ _ _ _ _ _ _ _ _ _ 0 (.inl rfl) _).more (by decide)|j+5=>exact b6 ((c_ (show(wy 0 (.bool asc)).length<=j+5 from iL 5 j)).symm.trans h)
end
theorem PK(F:ae->ae)(rs:ab (ab ae)):∀(k:ae),(∀r∈rs,r.length=3)->(∀(i x:ae),(rs.flatMap id)[i]? =aa x->F (3*k+i)=x)->vb F rs.length k=rs:=by
 induction rs with
 |nil=>intro k _ _;rfl|cons r rs d=>
  intro k b a;have c:=b r ax;have e:(r::rs).flatMap id=r++rs.flatMap id:=rfl;rw[e]at a;show og F k::vb F rs.length (ar k)=r::rs;have f:og F k=r:=by
   refine Rx λi=>?_
   match i with
   |0=>rw[az (by lia:0<r.length)];exact aY aa (a 0 _ (by rw[ct (by lia),az (by lia)]))|1=>rw[az (by lia:1<r.length)];exact aY aa (a 1 _ (by rw[ct (by lia),az (by lia)]))|2=>rw[az (by lia:2<r.length)];exact aY aa (a 2 _ (by rw[ct (by lia),az (by lia)]))|i+3=>rw[c_ (l:=r) (by lia)];rfl
  rw[f,d (ar k) (λr h=>b r (aK _ h)) λi x e=>by
   rw[<-a (3+i) x (by rw[d7 (ae.le.intro (AR (aY HAdd.hAdd c) i)),c,hZ];exact e)]
   congr 1;simp only[vq];lia]
theorem q8(h:∀r∈rs,r.length=3):bC (f' rs) rs.length=rs:=PK _ rs 0 h λi x e=>by
 unfold f';rw[ae.mul_zero,dY,cx,e];rfl
theorem oQ(h:∀r∈rs,r.length=3):aC (f' rs) rs.length=dq rs:=by rw[iQ,q8 h]
theorem zG(a b:ab (ab ae)):tc (dq a) (dq b)=dq (a++b):=by
 induction a with
 |nil=>rfl|cons x a i=>exact aY (V.cons (.eN x)) i
theorem fK(f:ae->ae)(n:ae):(bC f n).length=n/\∀r∈bC f n,r.length=3:=by
 have h:∀n k,(vb f n k).length=n/\∀r∈vb f n k,r.length=3:=by
  intro n
  induction n with
  |zero=>intro k;exact⟨rfl,λr h=>sr h⟩|succ n i=>
   intro k;refine⟨aY (· +1) (i (ar k)).1,λr h=>?_⟩;rcases aG.mp h with rfl|h
   ·rfl
   ·exact(i (ar k)).2 r h
 exact h n 0
theorem rW(l:ab (ab ae)):AK l=l.length:=by
 induction l with
 |nil=>rfl|cons a l i=>exact aY ar i
def mJ(f g:ae->ae)(p:ae×ae):ae->ae:=f' (bC f p.1++bC g p.2)
theorem q9(f g:ae->ae)(p:ae×ae):iI f g p=aC (mJ f g p) (aM p.1 p.2)/\bC (mJ f g p) (aM p.1 p.2)=bC f p.1++bC g p.2:=by
 have l1:=fK f p.1;have l2:=fK g p.2;have l:(bC f p.1++bC g p.2).length=aM p.1 p.2:=by rw[bV,l1.1,l2.1];rfl
 have a:∀r∈bC f p.1++bC g p.2,r.length=3:=λr h=>(bE.mp h).elim (l1.2 r) (l2.2 r);unfold iI mJ;rw[<-l,iQ,iQ,zG,oQ a];exact⟨rfl,q8 a⟩
section
variable(c:Cfg)(he:ae)(asc:aE)(goal:MO)(m t f g:ae->ae)(p:ae×ae)
noncomputable def nP(p:ae×ae):ae:=aM p.1 p.2
def PL:ab St:=[AI (aC f p.1) (aC g p.2) (.bool asc) goal 1 (AH c.a c.key c.st c.w (hU m (t7 t c.w)) he mD) [],s1B c.a c.key c.st c.w he (.bool asc) goal m f g (t7 t c.w) p,
 HY c.a c.key c.st c.w (HZ he) (aC f p.1) (aC g p.2) asc goal (mJ f g p) (hU (oP m f g p) (t7 t c.w)) 1 (nP p),
 AL c.a c.key c.st c.w (HZ he) (aC f p.1) (aC g p.2) asc goal (eE asc (mJ f g p) (nP p)) (hU (oP m f g p) (t7 t c.w)) 1 (aC (mJ f g p) (nP p)) (nP p)]
theorem PM(ok:dH 129 lR)(hf:iI f g p=aC (lQ ro) (nP p))(hp:p∈bu)(b:nP p<13):∀i d,i<3->(wy 1 (.bool asc))[i]? =aa d->Good 258 215 [.a4 50,d.2] (zF (PL c he asc goal m t f g p) i) (.str []) (zF (PL c he asc goal m t f g p) (i+1)):=by
 intro i d e h
 match i with
 |0=>cases (⋯:(wy 1 (.bool asc))[0]? =aa (wx,jz)).symm.trans h;exact(tN _ _ _ _ _ _ _ _ _ _ 1 (.inr (.inl rfl))).more (by decide)|1=>
  cases (⋯:(wy 1 (.bool asc))[1]? =aa (wx,iH 1 (.bool asc))).symm.trans h
  have q:=(HT c.a c.key c.st c.w he (.bool asc) goal m f g (t7 t c.w) p hp).more (show 129<=258 by decide)
  unfold s2B at q;rw[(q9 f g p).1]at q;exact q
 |2=>cases (⋯:(wy 1 (.bool asc))[2]? =aa (wx,kh (.bool asc))).symm.trans h;exact zE _ _ _ _ _ _ _ _ _ _ _ ok 1 (.inr rfl) (nP p) b ((q9 f g p).1.symm.trans hf)|j+3=>lia
theorem WG(h:c.w∈[1,2]):zF (PL c he asc goal m t f g p) 3=s3 (HZ he) (aC f p.1) (aC g p.2) (.bool asc) (aC (mJ f g p) (nP p)) goal (joinM (oP m f g p) t) (eE asc (mJ f g p) (nP p)) 1 c (nP p):=by
 show AL _ _ _ _ _ _ _ _ _ _ (hU (oP m f g p) (t7 t c.w)) _ _ _=_;rw[rV h];rfl
theorem LR(ok:dH 129 lR)(hf:iI f g p=aC (lQ ro) (nP p))(k:c∈fL)(hp:p∈bu)(l:nP p∈kq c)(b:nP p<13):
  Good 295 228 [.a4 50,gk 1 (.bool asc)] (LO c he goal (aC f p.1) (aC g p.2) (hU m (t7 t c.w))) (.bool aq)
   (LP c (HZ he) (nP p) asc goal 1 (aC f p.1) (aC g p.2) (aC (mJ f g p) (nP p)) (joinM (oP m f g p) t) (eE asc (mJ f g p) (nP p))):=by
 have r:=kU k;refine Dl (n:=258) (ds:=wy 1 (.bool asc)) (L:=66) (tg:=iX) (ts:=[iX jz,iX (iH 0 .none),iX (kh .none),iX i7,iX tM])
  (sts:=PL c he asc goal m t f g p++[s4 (HZ he) (aC f p.1) (aC g p.2) (.bool asc) (aC (mJ f g p) (nP p)) goal (joinM (oP m f g p) t) (eE asc (mJ f g p) (nP p)) 1 c (nP p),
   LP c (HZ he) (nP p) asc goal 1 (aC f p.1) (aC g p.2) (aC (mJ f g p) (nP p)) (joinM (oP m f g p) t) (eE asc (mJ f g p) (nP p))]) (by decide) (⋯) (by decide) (⋯) (by decide) ?_ rfl (⋯) ?_
 ·exactλo=>Pz c.a c.key c.st c.w he (hU m (t7 t c.w)) (aC f p.1) (aC g p.2) (.bool asc) goal o
 ·intro i d h
  have e:=PM c he asc goal m t f g p ok hf hp b
  match i with
  |0=>exact e 0 d (by decide) h|1=>exact e 1 d (by decide) h|2=>exact e 2 d (by decide) h|3=>
   cases (⋯:(wy 1 (.bool asc))[3]? =aa (wx,i7)).symm.trans h
   have q:=wz (HZ he) (aC f p.1) (aC g p.2) (.bool asc) (aC (mJ f g p) (nP p)) goal (joinM (oP m f g p) t) (eE asc (mJ f g p) (nP p)) 1 (.inr (.inl rfl)) c k (nP p) l;rw[<-WG c he asc goal m t f g p r]at q;exact q
  |4=>cases (⋯:(wy 1 (.bool asc))[4]? =aa (wx,tM)).symm.trans h;exact Good.more (n:=129) (m:=258) (zx c.a c.key c.st c.w (HI (HZ he)) (aC f p.1) (aC g p.2) (.bool asc) goal (sR 69 aq) (.list (aC (mJ f g p) (nP p))) (.list (aC (eE asc (mJ f g p) (nP p)) (nP p))) (.dict (AJ (eE asc (mJ f g p) (nP p)) (nP p)) (ar (nP p))) 1 (.inr (.inl rfl)) (jK (mG c (joinM (oP m f g p) t) (eE asc (mJ f g p) (nP p)) (nP p)) (aM 15 c.w))) (by decide)|j+5=>exact b6 ((c_ (show(wy 1 (.bool asc)).length<=j+5 from iL 5 j)).symm.trans h)
def PN:ab St:=[AI (aC f p.1) (aC g p.2) (.bool asc) goal 2 (AH c.a c.key c.st c.w (hU m (t7 t c.w)) he mD) [],s1C c.a c.key c.st c.w he asc goal m f g (t7 t c.w) p,s2C c.a c.key c.st c.w he asc goal m f g (t7 t c.w) p]
theorem PO(ok:dH 129 lR)(hp:p∈bu):∀i d,i<2->(wy 2 (.bool asc))[i]? =aa d->Good 258 215 [.a4 50,d.2] (zF (PN c he asc goal m t f g p) i) (.str []) (zF (PN c he asc goal m t f g p) (i+1)):=by
 intro i d a h
 match i with
 |0=>cases (⋯:(wy 2 (.bool asc))[0]? =aa (wx,jz)).symm.trans h;exact(tN _ _ _ _ _ _ _ _ _ _ 2 (.inr (.inr rfl))).more (by decide)|1=>cases (⋯:(wy 2 (.bool asc))[1]? =aa (wx,iH 2 (.bool asc))).symm.trans h;exact H0 _ _ _ _ _ _ _ _ _ _ _ ok p hp|j+2=>lia
theorem WH(h:c.w∈[1,2]):zF (PN c he asc goal m t f g p) 2=s3 (HZ he) (aC f p.1) (aC g p.2) (.bool asc) (iI f g p) goal (joinM (oP m f g p) t) (zA asc f g p) 2 c (nP p):=by
 show AL _ _ _ _ _ _ _ _ _ _ (hU (oP m f g p) (t7 t c.w)) _ _ _=_;rw[rV h];rfl
theorem LS(ok:dH 129 lR)(b:c∈fL)(hp:p∈bu)(k:nP p∈kq c):
  Good 295 228 [.a4 50,gk 2 (.bool asc)] (LO c he goal (aC f p.1) (aC g p.2) (hU m (t7 t c.w))) (.bool aq)
   (LP c (HZ he) (nP p) asc goal 2 (aC f p.1) (aC g p.2) (iI f g p) (joinM (oP m f g p) t) (zA asc f g p)):=by
 have l:=kU b;refine Dl (n:=258) (ds:=wy 2 (.bool asc)) (L:=66) (tg:=iX) (ts:=[iX jz,iX (iH 2 .none),iX i7,iX tM])
  (sts:=PN c he asc goal m t f g p++[s4 (HZ he) (aC f p.1) (aC g p.2) (.bool asc) (iI f g p) goal (joinM (oP m f g p) t) (zA asc f g p) 2 c (nP p),
   LP c (HZ he) (nP p) asc goal 2 (aC f p.1) (aC g p.2) (iI f g p) (joinM (oP m f g p) t) (zA asc f g p)]) (by decide) (⋯) (by decide) (⋯) (by decide) ?_ rfl (⋯) ?_
 ·exactλo=>PA c.a c.key c.st c.w he (hU m (t7 t c.w)) (aC f p.1) (aC g p.2) (.bool asc) goal o
 ·intro i d h
  have e:=PO c he asc goal m t f g p ok hp
  match i with
  |0=>exact e 0 d (by decide) h|1=>exact e 1 d (by decide) h|2=>
   cases (⋯:(wy 2 (.bool asc))[2]? =aa (wx,i7)).symm.trans h
   have q:=wz (HZ he) (aC f p.1) (aC g p.2) (.bool asc) (iI f g p) goal (joinM (oP m f g p) t) (zA asc f g p) 2 (.inr (.inr rfl)) c b (nP p) k;rw[<-WH c he asc goal m t f g p l]at q;exact q
  |3=>cases (⋯:(wy 2 (.bool asc))[3]? =aa (wx,tM)).symm.trans h;exact Good.more (n:=129) (m:=258) (zx c.a c.key c.st c.w (HI (HZ he)) (aC f p.1) (aC g p.2) (.bool asc) goal (sR 69 aq) (.list (iI f g p)) (.list (aC (zA asc f g p) (nP p))) (.dict (AJ (zA asc f g p) (nP p)) (ar (nP p))) 2 (.inr (.inr rfl)) (jK (mG c (joinM (oP m f g p) t) (zA asc f g p) (nP p)) (aM 15 c.w))) (by decide)|j+4=>exact b6 ((c_ (show(wy 2 (.bool asc)).length<=j+4 from iL 4 j)).symm.trans h)
end
def Y0(as:ab V):Rm V:=ue as λu m=>jh u λn o=>MO.casesOn o (λι=>bW) (λι ι=>bW) (λι ι=>bW) (λι=>bW) λt=>dG t bW λp q=>ei m λm=>eB (au m p.1&&(cf 1 m&&cf m 13)) (b8 (put n (.jg q)) λι=>rt (.int p.2))
def BJ(k:ae):aE:=yn [220,221,225,226,227,164,163,123,228,125] k
def AM(o:ae->ab V->Rm V)(j:ae)(as:ab V):Rm V:=cS (au j 221) (Y0 as) (cS (BJ j) (o j as) bW)
def dc(o:ae->ab V->Rm V):Tab:=⟨λk=>cS (BJ k) aw (Z6 k),sv uk,AM o⟩
theorem dH.Y1(g:dH n (AM o))(H:HX G.w G.X):qT G (kH G.w.params) (dc o) n:=by
 have c:=g.TN H;refine⟨c.toWi,c.lim,λj f e=>c.fn j f ?_,c.Wc,c.Jy,c.Wj,c.He,c.makes,c.D1⟩;have e:cS (BJ j) aw (Z6 j)=aa f:=e
 induction h:BJ j with
 |true=>rw[h]at e;exact b6 e|false=>rw[h]at e;exact e
theorem LU(hb:n<=b/\8<=b)(g:dH n (AM o))(e:d' (dc o) (bg (dc o) N) j as σ=aa (v,τ)):Good (b+2*N+1) j as σ v τ:=λG H us k u S A Q R q=>
 yU (G:=G) (K:=kH G.w.params) (T:=dc o) (mm:=n) (n:=b+2*N) (k:=k) (σ:=σ) (r:=bg (dc o) N) (g.Y1 H) (CX (g.Y1 H) hb N) (bq hb.1 (bp ..)) u v τ e S A Q R q
set_option genInjectivity false in
structure Cl where
 j:ae
 as:ab V
 σ:St
 v:V
 τ:St
def oCh(cs:ab Cl)(j:ae)(as:ab V):Rm V:=λσ=>open Classical in if h:∃c∈cs,c.j=j/\c.as=as/\c.σ=σ then aa (h.choose.v,h.choose.τ) else aw
theorem LV{α g:Type}{f:α->g}{l:ab α}(n:(l.map f).Nodup){a b:α}(c:a∈l)(hb:b∈l)(e:f a=f b):a=b:=by
 induction l with
 |nil=>exact sr c|cons x r i=>
  rw[dR,gV]at n;rcases aG.mp c with e1|d
  ·rcases aG.mp hb with e2|h
   ·exact e1.trans e2.symm
   ·exact er (bF.mpr ⟨b,h,by rw[<-e,e1]⟩) n.1
  ·rcases aG.mp hb with e2|h
   ·exact er (bF.mpr ⟨a,d,by rw[e,e2]⟩) n.1
   ·exact i n.2 d h
theorem Y2{cs:ab Cl}{tg:ae->ab V->ae}(n:(cs.map λc=>tg c.j c.as).Nodup){c:Cl}(h:c∈cs):oCh cs c.j c.as c.σ=aa (c.v,c.τ):=by
 unfold oCh;have x:∃d∈cs,d.j=c.j/\d.as=c.as/\d.σ=c.σ:=⟨c,h,rfl,rfl,rfl⟩;rw[dif_pos x];obtain⟨a,b,e,_⟩:=x.choose_spec;rw[LV n a h (by rw[b,e])]
set_option tactic.hygienic true in
theorem Y3(h:∀c∈cs,Good n c.j c.as c.σ c.v c.τ):dH n (oCh cs):=λj as σ v τ e=>by
 unfold oCh at e
 split at e
 ·rename_i x
  obtain⟨a,b,d,f⟩:=x.choose_spec
  cases e
  have:=h _ a;rw[b,d,f]at this;exact this
 ·exact b6 e
def gz(i:ae):cF:=iM ((bT 229).body.drop i)
def dn(o:ae->ab V->Rm V)(i:ae)(re:aX):Rm (Fl×aX):=(iq (bT 229).sc (gz i)).f (dc o) (bg (dc o) 30) re
def nm(s:cZ):ae:=enc (aL s)
def eg(l:ab (cZ×V)):aX:=l.map λp=>(nm p.1,p.2)
noncomputable def xM(x:ao (V×St)):ae->ab V->Rm V:=λι ι ι=>x
def Uu(a:ae):ab ae:=qG a aD λa=>qG a aS λι=>aR
def abI(a h:ae):aE:=cS (au a 1) (bH 0 h) aq
def BK(w:ae):ab ae:=cS (au w 1) [53] [48,53]
def tk(a h st:ae)(q:ab (ae×Int)):ab (ae×Int):=cS (au a 1) ((3,.ofNat h)::(2,.ofNat st)::q) ((2,.ofNat st)::q)
noncomputable def e0:ab (cZ×V):=[("script",.a4 0)]
noncomputable def e1:ab (cZ×V):=e0++[("urn",.a4 1)]
noncomputable def e2(a:ab ae)(w:ae):ab (cZ×V):=e1++[("access",.str a),("way",.int (.ofNat w))]
def cfgOf(a w h st:ae):Cfg:=⟨Uu a,ar w,abI a h,au st 1⟩
noncomputable def e3(c:Cfg)(way:ae):ab (cZ×V):=e2 c.a way++[("width",.int (.ofNat c.w)),("has_key",.bool c.k),("has_status",.bool c.s)]
def e4(c:Cfg)(way:ae)(asc:aE)(n:ae):ab (cZ×V):=e3 c way++[("held",.eN (BK c.w)),("is_ascending",.bool asc),("many",.int (.ofNat n))]
section
variable(o:ae->ab V->Rm V)(o0:MO)(q:ab (ae×Int))(way:ae)
theorem v1:((bh 3).map λa=>dn o 1 (eg e1) (gN [o0,.jg ((3,.ofNat a)::(3,.ofNat way)::q)]))=(bh 3).map λa=>aa ((.next,eg (e2 (Uu a) way)),gN [o0,.jg q]):=⋯
def l2:ab (ae×ae×ae×ae):=(bh 3).flatMap λa=>(bh 2).flatMap λw=>(bh 3).flatMap λh=>(bh 2).map λst=>(a,w,h,st)
theorem v2:(l2.map λp=>dn o 2 (eg (e2 (Uu p.1) way)) (gN [o0,.jg ((2,.ofNat p.2.1)::tk p.1 p.2.2.1 p.2.2.2 q)]))=l2.map λp=>aa ((.next,eg (e3 (cfgOf p.1 p.2.1 p.2.2.1 p.2.2.2) way)),gN [o0,.jg q]):=⋯
def l3:ab (ae×ae×ae):=[1,2].flatMap λw=>(bh 2).flatMap λx=>(bh 9).map λm=>(w,x,m)
def q_(m:ae):ae:=@bl ae (λι=>ae) 0 (λx=>x) (Z3 i8 m)
theorem v3(a:ab ae)(k s:aE):(l3.map λp=>dn o 3 (eg (e3 ⟨a,p.1,k,s⟩ way)) (gN [o0,.jg ((2,.ofNat p.2.1)::(9,.ofNat p.2.2)::q)]))=
  l3.map λp=>aa ((.next,eg (e4 ⟨a,p.1,k,s⟩ way (au p.2.1 0) (q_ p.2.2))),gN [o0,.jg q]):=⋯
end
theorem via{o:ae->ab V->Rm V}(h:o j as σ1=aa (v,τ))(a:dn o i re σ=dn (xM (o j as σ1)) i re σ)(b:dn (xM (aa (v,τ))) i re σ=r):dn o i re σ=r:=by
 rw[a,h];exact b
section
variable(o:ae->ab V->Rm V)(c:Cfg)(way n:ae)(asc:aE)(f:ae->ae)(o0:MO)(q:ab (ae×Int))
def e5(c:Cfg)(way:ae)(asc:aE)(n:ae):ab (cZ×V):=e4 c way asc n++[("rows",.a4 2)]
theorem v4a(σ:St):dn o 4 (eg (e4 c way asc n)) σ=dn (xM (o 226 [.a4 1,.int (.ofNat n)] σ)) 4 (eg (e4 c way asc n)) σ:=⋯
theorem v4b(σ τ:St):dn (xM (aa (.a4 2,τ))) 4 (eg (e4 c way asc n)) σ=aa ((.next,eg (e5 c way asc n)),τ):=⋯
end
noncomputable def oh(f:ae->ae)(c i:ae):ae:=f (aM (bP 3 c) i)
def e6(c:Cfg)(way:ae)(asc:aE)(n:ae)(p:ae×ae):ab (cZ×V):=e5 c way asc n++[("cut",.int (.ofNat p.1))]
def e7(c:Cfg)(way:ae)(asc:aE)(n:ae)(p:ae×ae)(s:ae):ab (cZ×V):=e6 c way asc n p++[("sides",.a4 s)]
def Y4(way:ae):V:=cS (au way 0) (jL [AG]) (jL [AG,LA])
def e8(c:Cfg)(way:ae)(asc:aE)(n:ae)(p:ae×ae)(s:ae):ab (cZ×V):=e7 c way asc n p s++[("world",.a4 56),("names",Y4 way)]
def shW(b:ae)(l:ab MO):ab MO:=abb (Ll (mapM (Bt 0 b 59 []) (Ac b)) l)
noncomputable def WI:ab ae:=@eb (λι=>ae->ab ae) (λι=>[]) (λι h i=>i::h (ar i)) 59 6
section
variable(o:ae->ab V->Rm V)(c:Cfg)(way n:ae)(asc:aE)(f g:ae->ae)(o0:MO)(q:ab (ae×Int))
theorem v5a:(i8.map λn=>dn o 5 (eg (e5 c 0 asc (nP (n,0)))) (gN [o0,.jg q,.list (aC f n)]))=i8.map λn=>aa ((.next,eg (e6 c 0 asc n (n,0))),gN [o0,.jg q,.list (aC f n)]):=⋯
theorem v5b:([1,2].map λway=>bu.map λp=>dn o 5 (eg (e5 c way asc (nP p))) (gN [o0,.jg ((ar (nP p),.ofNat p.1)::q),.list (aC f (nP p))]))=
  [1,2].map λway=>bu.map λp=>aa ((.next,eg (e6 c way asc (nP p) p)),gN [o0,.jg q,.list (aC f (nP p))]):=⋯
def o6(p:ae×ae)(r f g:ae->ae):ab MO:=[o0,.jg q,.list (aC r (nP p)),.list (aC f p.1),.list (aC g p.2),.list (.cons (.a4 3) (.cons (.a4 4) .nil))]
theorem v6:(bu.map λp=>dn o 6 (eg (e6 c way asc (nP p) p)) (gN [o0,.jg q,.list (aC f (nP p))]))=bu.map λp=>aa ((.next,eg (e7 c way asc (nP p) p 5)),gN (o6 o0 q p f f (oh f p.1))):=⋯
theorem v7a(p:ae×ae)(σ:St):((bh 3).map λway=>dn o 7 (eg (e7 c way asc n p 5)) σ)=(bh 3).map λway=>dn (xM (o 225 [.str c.a,.int (.ofNat c.w),.bool c.k,.bool c.s] σ)) 7 (eg (e7 c way asc n p 5)) σ:=⋯
theorem v7b(p:ae×ae)(σ τ:St):((bh 3).map λway=>dn (xM (aa (.a4 56,τ))) 7 (eg (e7 c way asc n p 5)) σ)=(bh 3).map λway=>aa ((.next,eg (e8 c way asc n p 5)),τ):=⋯
noncomputable def m0(_:ae):ae:=32
def t0(w i:ae):ae:=cS (au (aM i 1) (aM 13 w)) 53 (cS (au w 2) (cS (au i 13) 48 32) 32)
theorem v8a(p:ae×ae)(σ:St):dn o 8 (eg (e8 c way asc n p 5)) σ=dn (xM (o 164 [.a4 56,refOf kN,.eN (BK c.w)] σ)) 8 (eg (e8 c way asc n p 5)) σ:=⋯
theorem v8b(p:ae×ae)(v:V)(σ τ:St):dn (xM (aa (v,τ))) 8 (eg (e8 c way asc n p 5)) σ=aa ((.next,eg (e8 c way asc n p 5)),τ):=⋯
end
def is2(way x y:ae):ae:=cS (au way 2) x y
def fW(way:ae)(x y:ae->ae):ae->ae:=cS (au way 2) x y
def sdL(way:ae):ae:=is2 way 67 5
def bL(way:ae):ae:=is2 way 68 65
def lA(way:ae):ae:=is2 way 65 3
def lB(way:ae):ae:=is2 way 66 4
def exW(way:ae)(p:ae×ae)(F G:ae->ae):ab MO:=cS (au way 2) [.list (aC F p.1),.list (aC G p.2),.list (.cons (.a4 65) (.cons (.a4 66) .nil))] []
def abJ(c:Cfg)(M:ab ae)(l:MO)(he:ae)(s:MO):ab MO:=xI (shW 6 (wq c.a c.w c.key c.st M (.dict .nil 0) he s)) 49 l
noncomputable def Y5(a k:ab ae)(l:ae):V:=.cons (.str a) (.tup (.cons (.str k) (.cons (.a4 l) .nil)))
noncomputable def Y6:MO:=.dict .nil 0
def fl1(b:ae):MO:=.dict (.cons (Y5 wi mC b) .nil) 1
def fl2(b:ae):MO:=.dict (.cons (Y5 wi mC b) (.cons (Y5 zr mC (ar b)) .nil)) 2
def flB(b g:ae):MO:=lO (.a4 b) (.a4 (ar b)) (.a4 g)
noncomputable def abK:V:=.eN [111,108,100,32]
noncomputable def H3(e:ae):MO:=.list (.cons (.tup (.cons (.int (.ofNat (aM 1 e))) (.cons abK .nil))) .nil)
section
variable(o:ae->ab V->Rm V)(c:Cfg)(asc:aE)(n:ae)(f F G:ae->ae)(p:ae×ae)(o0:MO)(q:ab (ae×Int))(M:ab ae)
def sV(way:ae)(q:ab (ae×Int))(l:MO)(he:ae)(s:MO)(ex:ab MO):St:=gN (o6 o0 q p f (fW way f F) (fW way (oh f p.1) G)++(abJ c M l he s++(exW way p F G++ex)))
def wB(way:ae)(q:ab (ae×Int)):St:=sV c f F G p o0 M way q Y6 0 mD []
def Gf(way:ae)(q:ab (ae×Int)):St:=sV c f F G p o0 M way q (fl1 (bL way)) 0 mD [.list (aC F p.1)]
def Uv(way:ae)(q:ab (ae×Int)):St:=sV c f F G p o0 M way q (fl2 (bL way)) 0 mD [.list (aC F p.1),.list (aC G p.2)]
def H4(way e:ae)(q:ab (ae×Int)):St:=sV c f F G p o0 M way q (fl2 (bL way)) 0 mD [.list (aC F p.1),.list (aC G p.2),H3 e]
def e9(c:Cfg)(way:ae)(asc:aE)(n:ae)(p:ae×ae):ab (cZ×V):=e8 c way asc n p (sdL way)
theorem v9(σ:St):([0,1].map λway=>dn o 9 (eg (e8 c way asc n p 5)) σ)=[0,1].map λway=>aa ((.next,eg (e9 c way asc n p)),σ):=⋯
def DQ(o:ae->ab V->Rm V)(N:ae)(e:aQ)(re:aX):Rm V:=(bg (dc o) N).ev (bT 229).sc e re
def sf(o:ae->ab V->Rm V)(N:ae)(l:ab aQ)(re:aX):Rm (ab V):=te (bg (dc o) N) (bT 229).sc re l
set_option backward.match.sparseCases false in
noncomputable def atO:aQ->aQ
 |.Attribute a b c=>a|e=>e
def mA(i:ae):aQ:=atO (yb (i5 (gz i)))
def mE(i:ae):ab aQ:=Ae (i5 (gz i))
noncomputable def FE(b:ae):MO:=.inst 11 [(1539367003507,.a4 b)]
theorem v10:((bh 3).map λway=>(DQ o 29 (mA 10) (eg (e9 c way asc n p)) (wB c f F G p o0 M way q),(wB c f F G p o0 M way q).t.get 54,sf o 29 (mE 10) (eg (e9 c way asc n p)) (wB c f F G p o0 M way q)))=(bh 3).map λway=>(aa (.a4 54,wB c f F G p o0 M way q),aa (FE 55),aa ([.str wi,.str mC,.a4 (lA way)],wB c f F G p o0 M way q)):=⋯
theorem v11:((bh 3).map λway=>(DQ o 29 (mA 11) (eg (e9 c way asc n p)) (Gf c f F G p o0 M way q),(Gf c f F G p o0 M way q).t.get 54,sf o 29 (mE 11) (eg (e9 c way asc n p)) (Gf c f F G p o0 M way q)))=(bh 3).map λway=>(aa (.a4 54,Gf c f F G p o0 M way q),aa (FE 55),aa ([.str zr,.str mC,.a4 (lB way)],Gf c f F G p o0 M way q)):=⋯
variable(e:ae)
theorem v12:((bh 3).map λway=>(DQ o 29 (mA 12) (eg (e9 c way asc n p)) (Uv c f F G p o0 M way ((9,.ofNat e)::q)),(Uv c f F G p o0 M way ((9,.ofNat e)::q)).t.get 54,sf o 29 (mE 12) (eg (e9 c way asc n p)) (Uv c f F G p o0 M way ((9,.ofNat e)::q))))=(bh 3).map λway=>(aa (.a4 54,Uv c f F G p o0 M way ((9,.ofNat e)::q)),aa (FE 55),aa ([.str q4,.str Lz,.a4 (aM 2 (bL way))],H4 c f F G p o0 M way e q)):=⋯
end
section
variable{o:ae->ab V->Rm V}{i:ae}{re:aX}{σ σ1 τ:St}
theorem JT(h:qk (bT 229).sc e=⟨λT r re=>b8 (r.ev (bT 229).sc a re) λv=>D3 T r k v (te r (bT 229).sc re es)⟩)(b:DQ o N a re σ=aa (.a4 n,σ))(d:σ.t.get n=aa (.inst c as))(m:sv uk c k=aa j)(g:sf o N es re σ=aa (vs,σ1))(l:AM o j (.a4 n::vs) σ1=aa (v,τ)):DQ o (N+1) e re σ=aa (v,τ):=by
 show(qk (bT 229).sc e).f (dc o) (bg (dc o) N) re σ=_;rw[h];show b8 (DQ o N a re) (λv=>D3 (dc o) (bg (dc o) N) k v (sf o N es re)) σ=_;rw[cw b];have s:o_ (.a4 n) (λι c ι=>opt ((dc o).D1 c k) λf=>b8 (sf o N es re) λvs=>d' (dc o) (bg (dc o) N) f (.a4 n::vs)) σ=aa (v,τ):=by
  show(@bl MO (λι=>ao (V×St)) aw (λo' =>MO.casesOn (motive:=λι=>Rm V) o' (λι=>M.Internal.bW) (λι ι=>M.Internal.bW) (λc ι=>opt (sv uk c k) λf=>b8 (sf o N es re) λvs=>d' (dc o) (bg (dc o) N) f (.a4 n::vs)) (λι=>M.Internal.bW) (λι=>M.Internal.bW) σ) (σ.t.get n))=_;rw[d];show opt (sv uk c k) (λf=>b8 (sf o N es re) λvs=>d' (dc o) (bg (dc o) N) f (.a4 n::vs)) σ=_;rw[m];show b8 (sf o N es re) (λvs=>d' (dc o) (bg (dc o) N) j (.a4 n::vs)) σ=_;rw[cw g];exact kT (T:=dc o) l
 show M.Internal.alt _ _ σ=_;unfold M.Internal.alt;rw[s]
theorem wC(h:iq (bT 229).sc (gz i)=⟨λι r re=>b8 (r.ev (bT 229).sc e re) λι=>rt (.next,re)⟩)(E:qk (bT 229).sc e=⟨λT r re=>b8 (r.ev (bT 229).sc a re) λv=>D3 T r k v (te r (bT 229).sc re es)⟩)(b:DQ o 29 a re σ=aa (.a4 n,σ))(d:σ.t.get n=aa (.inst c as))(m:sv uk c k=aa j)(g:sf o 29 es re σ=aa (vs,σ1))(l:AM o j (.a4 n::vs) σ1=aa (v,τ)):dn o i re σ=aa ((.next,re),τ):=by
 unfold dn;rw[h];exact cw (f:=λι=>rt ((Fl.next,re):Fl×aX)) (JT E b d m g l)
end
section
variable{o:ae->ab V->Rm V}{c:Cfg}{asc:aE}{n:ae}{f F G:ae->ae}{p:ae×ae}{o0:MO}{q:ab (ae×Int)}{M:ab ae}{way e:ae}{v:V}{τ:St}
theorem Y7(w:way∈bh 3)(h:o 123 [.a4 54,.str wi,.str mC,.a4 (lA way)] (wB c f F G p o0 M way q)=aa (v,τ)):dn o 10 (eg (e9 c way asc n p)) (wB c f F G p o0 M way q)=aa ((.next,eg (e9 c way asc n p)),τ):=by
 have z:=a5 (v10 o c asc n f F G p o0 q M) w;obtain⟨z1,z⟩:=av z;obtain⟨z2,z3⟩:=av z;exact wC (e:=i5 (gz 10)) (a:=mA 10) (es:=mE 10) (k:=23880057) (j:=123) (c:=11) (⋯) (⋯) z1 z2 (⋯) z3 h
theorem Y8(w:way∈bh 3)(h:o 123 [.a4 54,.str zr,.str mC,.a4 (lB way)] (Gf c f F G p o0 M way q)=aa (v,τ)):dn o 11 (eg (e9 c way asc n p)) (Gf c f F G p o0 M way q)=aa ((.next,eg (e9 c way asc n p)),τ):=by
 have z:=a5 (v11 o c asc n f F G p o0 q M) w;obtain⟨z1,z⟩:=av z;obtain⟨z2,z3⟩:=av z;exact wC (e:=i5 (gz 11)) (a:=mA 11) (es:=mE 11) (k:=23880057) (j:=123) (c:=11) (⋯) (⋯) z1 z2 (⋯) z3 h
theorem Y9(w:way∈bh 3)(h:o 123 [.a4 54,.str q4,.str Lz,.a4 (aM 2 (bL way))] (H4 c f F G p o0 M way e q)=aa (v,τ)):dn o 12 (eg (e9 c way asc n p)) (Uv c f F G p o0 M way ((9,.ofNat e)::q))=aa ((.next,eg (e9 c way asc n p)),τ):=by
 have z:=a5 (v12 o c asc n f F G p o0 q M e) w;obtain⟨z1,z⟩:=av z;obtain⟨z2,z3⟩:=av z;exact wC (e:=i5 (gz 12)) (a:=mA 12) (es:=mE 12) (k:=23880057) (j:=123) (c:=11) (⋯) (⋯) z1 z2 (⋯) z3 h
end
def e10(c:Cfg)(way:ae)(asc:aE)(n:ae)(p:ae×ae):ab (cZ×V):=e9 c way asc n p++[("keys",Fy (.bool asc)),("goal",Po)]
def LX(c:Cfg)(way:ae)(asc:aE)(n:ae)(p:ae×ae):ab (cZ×V):=e10 c way asc n p++[("statement",gk way (.bool asc))]
def H5(c:Cfg)(way:ae)(asc:aE)(n:ae)(p:ae×ae)(b:aE):ab (cZ×V):=LX c way asc n p++[("is_done",.bool b)]
def RP(c:Cfg)(way:ae)(asc:aE)(n:ae)(p:ae×ae):ab (cZ×V):=H5 c way asc n p aq++[("due",.a4 (aM 7 (bL way)))]
def PQ(D:ae->ae)(i:ae):ab ae:=qH (og D i) [32]
def abL(D:ae->ae)(n:ae):V:=cu ((bh n).map λi=>V.eN (PQ D i))
def tO(D:ae->ae)(n:ae):V:=.tup (cu ((bh n).map λi=>V.tup (.cons (.int (.ofNat (ar i))) (.cons (.eN (PQ D i)) .nil))))
section
variable(o:ae->ab V->Rm V)(c:Cfg)(asc b:aE)(f F G h D:ae->ae)(p:ae×ae)(o0 od:MO)(q:ab (ae×Int))(M:ab ae)(he e way n:ae)
theorem v13(σ:St):dn o 13 (eg (e9 c way asc n p)) σ=aa ((.next,eg (e10 c way asc n p)),σ):=⋯
theorem v14(σ:St):((bh 3).map λway=>dn o 14 (eg (e10 c way asc n p)) σ)=(bh 3).map λway=>aa ((.next,eg (LX c way asc n p)),σ):=⋯
theorem adC(σ:St):dn o 15 (eg (LX c way asc n p)) σ=dn (xM (o 228 [.a4 56,gk way (.bool asc)] σ)) 15 (eg (LX c way asc n p)) σ:=⋯
theorem adD(σ τ:St):dn (xM (aa (.bool b,τ))) 15 (eg (LX c way asc n p)) σ=aa ((.next,eg (H5 c way asc n p b)),τ):=⋯
def PR(c:Cfg):ab ae:=cS (au (lim c) 9) [10,12] []
def qs:ab (Cfg×ae):=fL.flatMap λc=>(PR c).map λn=>(c,n)
theorem adE(σ:St):(fL.map λc=>(kq c).map λn=>dn o 16 (eg (H5 c way asc n p b)) σ)=fL.map λc=>(kq c).map λn=>aa ((.next,eg (H5 c way asc n p b)),σ):=⋯
theorem adF(σ:St):(qs.map λx=>dn o 16 (eg (H5 x.1 way asc x.2 p ai)) σ)=qs.map λx=>aa ((.ret (.bool aq),eg (H5 x.1 way asc x.2 p ai)),σ):=⋯
def FF(way:ae)(ex:ab MO):St:=sV c f F G p o0 M way q (flB (bL way) (aM 4 (bL way))) he HM ([.list (aC F p.1),.list (aC G p.2),H3 e,od,.dict (AJ h n) (ar n)]++ex)
def H6(way:ae):St:=FF c f F G h p o0 od q M he e n way [.list (iI F G p)]
def LY(way:ae):St:=FF c f F G h p o0 od q M he e n way [.list (iI F G p),.list (aC D n)]
def oR(way:ae):St:=FF c f F G h p o0 od q M he e n way [.list (iI F G p),.list (aC D n),.list (abL D n)]
end
set_option backward.match.sparseCases false in
noncomputable def wD:aQ->aQ
 |.ListComp _ (g::_) _ _=>g.iter|e=>e
set_option backward.match.sparseCases false in
noncomputable def ku:aQ->aQ
 |.ListComp e a b c=>e|e=>e
set_option backward.match.sparseCases false in
noncomputable def f5:aQ->Sc
 |.ListComp a b s c=>s.names|_=>[]
set_option backward.match.sparseCases false in
noncomputable def FG:aQ->ab aQ
 |.ListComp _ (g::_) _ _=>g.ifs|_=>[]
def lcE(i:ae):aQ:=i5 (gz i)
def PS(o:ae->ab V->Rm V)(N:ae)(e:aQ)(xs ys:ab ae)(re:aX)(v:V):Rm V:=b8 (Km v) λi=>b8 (gx (bg (dc o) N) (f5 e) xs (FG e) (kK (bg (dc o) N) (f5 e) (ku e) []) hM i (jj ys re) .nil) λp=>qj (lX p.2 .nil)
section
variable(o:ae->ab V->Rm V)(c:Cfg)(asc:aE)(f F G h D:ae->ae)(p:ae×ae)(o0 od:MO)(q:ab (ae×Int))(M:ab ae)(he e way n:ae)
theorem adG:(bu.map λp=>(bh 3).map λway=>sf o 28 (Ae (wD (lcE 17))) (eg (H5 c way asc (nP p) p aq)) (FF c f F G h p o0 od q M he e (nP p) way []))=
  bu.map λp=>(bh 3).map λway=>aa ([.a4 (aM 5 (bL way)),.bool asc],H6 c f F G h p o0 od q M he e (nP p) way):=⋯
theorem adH:(bu.map λp=>(bh 3).map λway=>PS o 29 (lcE 17) [nm "row"] [nm "row"] (eg (H5 c way asc (nP p) p aq)) (.a4 (aM 6 (bL way))) (LY c f F G h D p o0 od q M he e (nP p) way))=
  bu.map λp=>(bh 3).map λway=>aa (.a4 (aM 7 (bL way)),oR c f F G h D p o0 od q M he e (nP p) way):=⋯
end
section
variable{o:ae->ab V->Rm V}{i:ae}{re re1:aX}{σ σ1 DP Wy:St}
theorem Uw{e it f:aQ}{es:ab aQ}{xs ys:ab ae}{j:ae}{vs:ab V}{v u:V}{t:aQ}(S:iq (bT 229).sc (gz i)=⟨λι r re=>b8 (r.ev (bT 229).sc e re) λv=>b8 (ui r (bT 229).sc t v re) λre1=>rt (.next,re1)⟩)(E:qk (bT 229).sc e=⟨λι r re=>b8 (la r (bT 229).sc it re) λi=>b8 (gx r (f5 e) xs (FG e) (kK r (f5 e) (ku e) []) hM i (jj ys re) .nil) λp=>qj (lX p.2 .nil)⟩)(I:∀r re,la r (bT 229).sc it re=b8 (r.ev (bT 229).sc it re) Km)(hC:qk (bT 229).sc it=⟨λT r re=>b8 (r.ev (bT 229).sc f re) λv=>b8 (te r (bT 229).sc re es) λvs=>w_ T r v vs⟩)(hf:(bg (dc o) 28).ev (bT 229).sc f re σ=aa (.fn j,σ))(g:sf o 28 es re σ=aa (vs,σ1))(k:AM o j vs σ1=aa (v,DP))(hb:PS o 29 e xs ys re v DP=aa (u,Wy))(l:ui (bg (dc o) 30) (bT 229).sc t u re Wy=aa (re1,Wy)):dn o i re σ=aa ((.next,re1),Wy):=by
 have h:(bg (dc o) 30).ev (bT 229).sc e re σ=aa (u,Wy):=by
  show(qk (bT 229).sc e).f (dc o) (bg (dc o) 29) re σ=_;rw[E];show b8 (la (bg (dc o) 29) (bT 229).sc it re) (λi=>b8 (gx (bg (dc o) 29) (f5 e) xs (FG e) (kK (bg (dc o) 29) (f5 e) (ku e) []) hM i (jj ys re) .nil) λp=>qj (lX p.2 .nil)) σ=_;rw[I];unfold PS at hb;have m:=u9 (T:=dc o) hC hf g (kT (T:=dc o) k)
  induction d:Km v DP with
  |none=>unfold b8 at hb;rw[d]at hb;exact b6 hb|some p=>
   rw[cw d]at hb;rw[cw (a:=p.1) (σ1:=p.2) ((cw m).trans d)];exact hb
 unfold dn;rw[S];show b8 ((bg (dc o) 30).ev (bT 229).sc e re) (λv=>b8 (ui (bg (dc o) 30) (bT 229).sc t v re) λre1=>rt (Fl.next,re1)) σ=_;rw[cw h];show b8 (ui (bg (dc o) 30) (bT 229).sc t u re) (λre1=>rt (Fl.next,re1)) Wy=_;rw[cw l];rfl
end
set_option backward.match.sparseCases false in
noncomputable def MF:cF->aQ
 |.Assign (t::_) _ _=>t|_=>.Tuple [] cC cC
section
variable{o:ae->ab V->Rm V}{c:Cfg}{asc:aE}{f F G h D:ae->ae}{p:ae×ae}{o0 od:MO}{q:ab (ae×Int)}{M:ab ae}{he e way:ae}
theorem Y_(hp:p∈bu)(w:way∈bh 3)(a:o 227 [.a4 (aM 5 (bL way)),.bool asc] (H6 c f F G h p o0 od q M he e (nP p) way)=aa (.a4 (aM 6 (bL way)),LY c f F G h D p o0 od q M he e (nP p) way)):
  dn o 17 (eg (H5 c way asc (nP p) p aq)) (FF c f F G h p o0 od q M he e (nP p) way [])=aa ((.next,eg (RP c way asc (nP p) p)),oR c f F G h D p o0 od q M he e (nP p) way):=
 Uw (e:=lcE 17) (it:=wD (lcE 17)) (f:=yb (wD (lcE 17))) (es:=Ae (wD (lcE 17))) (xs:=[nm "row"]) (ys:=[nm "row"]) (j:=227) (t:=MF (gz 17)) (⋯) (⋯) (λr re=>⋯) (⋯) (⋯)
  (cN (k:=λι=>bh 3) (adG o c asc f F G h o0 od q M he e) hp w) a (cN (k:=λι=>bh 3) (adH o c asc f F G h D o0 od q M he e) hp w) (⋯)
end
def isS{α:Type}(x:ao α):aE:=@bl α (λι=>aE) ai (λι=>aq) x
section
variable(he:ae)(one two asc old:V)(goal:MO)(m h:ae->ae)
def Ux:ab V:=[.a4 50,sG,.a4 69]
theorem abM:(qs.map λq=>(bh 3).map λway=>Fz (T1 q.1.w) (bg (T1 q.1.w) 60) [.a4 50,i7] (s3 he one two asc old goal m h way q.1 q.2))=qs.map λq=>(bh 3).map λway=>aa ((.fn 207,Ux),s3 he one two asc old goal m h way q.1 q.2):=⋯
theorem abN:(qs.map λq=>(bh 3).map λway=>isS (u' (T1 q.1.w) (bg (T1 q.1.w) 58) Ux (s3 he one two asc old goal m h way q.1 q.2)))=qs.map λq=>(bh 3).map λι=>aq:=⋯
end
noncomputable def muK(asc:aE):ab MO:=[.list (.cons (mI asc 1) .nil),mH]
def tP:cF:=iM (bT 197).body
def FH:ab cF:=vE tP
def vc:cF:=iM (FH.drop 1)
def ra(x y:ab ae):aX:=[(enc (aL "one"),.eN x),(enc (aL "other"),.eN y),(enc (aL "keys"),.a4 0)]
def oi(asc:aE)(x y:ab ae):aX:=ra x y++[(enc (aL "key"),mI asc 1),(enc (aL "first"),.eN (ov 1 x)),(enc (aL "second"),.eN (ov 1 y))]
section
variable{T:Tab}{r:Rec}{sc:Sc}{re:aX}{σ σ1:St}
theorem JV(h:iq sc m=⟨λι r re=>mx (r.tr sc c re) (r.ex sc a re) (r.ex sc b re)⟩)(d:r.tr sc c re σ=aa (t,σ1)):(iq sc m).f T r re σ=cS t (r.ex sc a re σ1) (r.ex sc b re σ1):=by
 rw[h];show b8 (r.tr sc c re) (λt=>cS t (r.ex sc a re) (r.ex sc b re)) σ=_;rw[cw d]
 cases t<;>rfl
end
section
variable(asc:aE)(x0 x1 x2 y0 y1 y2:ae)
def sK(asc:aE):St:=gN (muK asc)
def H7(asc:aE)(x y:ab ae):aX:=ra x y++[(enc (aL "key"),mI asc 1)]
theorem g1:(iq (bT 197).sc (iM FH)).f T0 (bg T0 11) (H7 asc [x0,x1,x2] [y0,y1,y2]) (sK asc)=aa ((.next,oi asc [x0,x1,x2] [y0,y1,y2]),sK asc):=⋯
theorem g2:(bg T0 11).tr (bT 197).sc (JU vc) (oi asc [x0,x1,x2] [y0,y1,y2]) (sK asc)=aa (dU (au (bz x0 256) (bz y0 256)),sK asc):=by
 have h:(bg T0 11).tr (bT 197).sc (JU vc) (oi asc [x0,x1,x2] [y0,y1,y2]) (sK asc)=qI .NotEq (.eN [x0]) (.eN [y0]) (sK asc):=⋯;rw[h];have a:qI .NotEq (.eN [x0]) (.eN [y0]) (sK asc)=opt (cS (au (bz x0 256) (bz y0 256)) (aa aq) (aa ai)) (λt=>rt (dU t)) (sK asc):=⋯;rw[a]
 cases au (bz x0 256) (bz y0 256)<;>rfl
theorem g3:(bg T0 11).ex (bT 197).sc (Y' vc) (oi asc [x0,x1,x2] [y0,y1,y2]) (sK asc)=aa ((.ret (.bool (Gy (bH (bz x0 256) (bz y0 256)) asc)),oi asc [x0,x1,x2] [y0,y1,y2]),sK asc):=⋯
theorem Za:(bg T0 12).ex (bT 197).sc FH (H7 asc [x0,x1,x2] [y0,y1,y2]) (sK asc)=cS (au (bz x0 256) (bz y0 256)) (aa ((.next,oi asc [x0,x1,x2] [y0,y1,y2]),sK asc))
  (aa ((.ret (.bool (Gy (bH (bz x0 256) (bz y0 256)) asc)),oi asc [x0,x1,x2] [y0,y1,y2]),sK asc)):=by
 have hb:FH=[iM FH,vc]:=⋯;have A:iq (bT 197).sc vc=⟨λι r re=>mx (r.tr (bT 197).sc (JU vc) re) (r.ex (bT 197).sc (Y' vc) re) (r.ex (bT 197).sc (yg vc) re)⟩:=⋯;have E:yg vc=[]:=⋯;rw[E]at A;have x:∀l re σ,(bg T0 12).ex (bT 197).sc l re σ=x3 T0 (bg T0 11) (bT 197).sc l re σ:=λι ι ι=>⋯;rw[x,hb,gm (g1 asc x0 x1 x2 y0 y1 y2)];have i:=JV (T:=T0) (r:=bg T0 11) A (g2 asc x0 x1 x2 y0 y1 y2)
 cases h:au (bz x0 256) (bz y0 256) with
 |true=>
  rw[h]at i;exact gm (re1:=oi asc [x0,x1,x2] [y0,y1,y2]) (σ1:=sK asc) i
 |false=>
  rw[h]at i;exact mF (i.trans (g3 asc x0 x1 x2 y0 y1 y2))
end
def Uy(l:ab aQ)(i:ae):aQ:=dG (l.drop i) (.Tuple [] cC cC) λe ι=>e
set_option backward.match.sparseCases false in
noncomputable def Uz:aQ->ab aQ
 |.BoolOp a l b=>l|_=>[]
set_option backward.match.sparseCases false in
noncomputable def PT:aQ->aQ
 |.Compare a b c d=>a|e=>e
set_option backward.match.sparseCases false in
noncomputable def Zb:aQ->aQ
 |.Compare a b l c=>Uy l 0|e=>e
def c18:aQ:=JU (gz 18)
def WJ:aQ:=Uy (Uz c18) 1
def c20:aQ:=JU (gz 20)
def LZ(i:ae):aQ:=Uy (Uz c20) i
def BL(k:aE)(w n:ae):ab ae:=cS k (cS (bH 0 n) (cS (au w 1) [aM 48 (bz n 10)] [aM 48 (gC n 10),aM 48 (bz n 10)]) (BK w)) (BK w)
def exT(k:aE)(n:ae):ab MO:=cS k (cS (bH 0 n) [.list (.cons (.int (.ofNat (aM 48 (gC n 10)))) (.cons (.int (.ofNat (aM 48 (bz n 10)))) .nil))] []) []
def stB(s:aE):ab ae:=cS s [48,48] [32,32]
def H8(c:Cfg)(way:ae)(asc:aE)(n:ae)(p:ae×ae):ab (cZ×V):=RP c way asc n p++[("told",.eN (BL c.k c.w n))]
def knL:ab (aE×ae×ae):=[aq,ai].flatMap λk=>[1,2].flatMap λw=>i8.map λn=>(k,w,n)
section
variable(o:ae->ab V->Rm V)(c:Cfg)(asc:aE)(f F G h:ae->ae)(p:ae×ae)(o0 od:MO)(q:ab (ae×Int))(M:ab ae)(he e way n:ae)
def Zc(n:ae):ab MO:=[.list (iI F G p),.list (aC h n),.list (abL h n),.list (xA h n)]
where xA (D:ae->ae) (n:ae):V:=cu ((bh n).map λi=>V.tup (.cons (.int (.ofNat (ar i))) (.cons (.eN (PQ D i)) .nil)))
def UA(way:ae):St:=FF c f F G h p o0 od q M he e n way (Zc F G h p n)
theorem adI(σ:St):(bg (dc o) 29).tr (bT 229).sc (Uy (Uz c18) 0) (eg (RP c way asc n p)) σ=aa (ai,σ):=⋯
theorem adJ:(bu.map λp=>(bh 3).map λway=>(DQ o 27 (atO (yb (PT WJ))) (eg (RP c way asc (nP p) p)) (oR c f F G h h p o0 od q M he e (nP p) way),(oR c f F G h h p o0 od q M he e (nP p) way).t.get 54,sf o 27 (Ae (PT WJ)) (eg (RP c way asc (nP p) p)) (oR c f F G h h p o0 od q M he e (nP p) way)))=
  bu.map λp=>(bh 3).map λway=>(aa (.a4 54,oR c f F G h h p o0 od q M he e (nP p) way),aa (FE 55),aa ([.str q4],oR c f F G h h p o0 od q M he e (nP p) way)):=⋯
theorem adK:(bu.map λp=>(bh 3).map λway=>DQ o 28 (Zb WJ) (eg (RP c way asc (nP p) p)) (oR c f F G h h p o0 od q M he e (nP p) way))=
  bu.map λp=>(bh 3).map λway=>aa (tO h (nP p),UA c f F G h p o0 od q M he e (nP p) way):=⋯
variable(a:ab ae)(s:aE)(l:V)
def sg(k:aE)(way:ae):St:=FF c f F G h p o0 od q M he e n way (Zc F G h p n++exT k n)
end
section
variable(o:ae->ab V->Rm V)(c:Cfg)(asc:aE)(f F G h:ae->ae)(p:ae×ae)(o0 od:MO)(q:ab (ae×Int))(M:ab ae)(he e way:ae)(a:ab ae)(s:aE)(xs:ab MO)
theorem v19:(knL.map λx=>(bh 3).map λway=>dn o 19 (eg (RP ⟨a,x.2.1,x.1,s⟩ way asc x.2.2 p)) (UA ⟨a,x.2.1,x.1,s⟩ f F G h p o0 od q M he e x.2.2 way))=
  knL.map λx=>(bh 3).map λway=>aa ((.next,eg (H8 ⟨a,x.2.1,x.1,s⟩ way asc x.2.2 p)),sg ⟨a,x.2.1,x.1,s⟩ f F G h p o0 od q M he e x.2.2 x.1 way):=⋯
theorem adL(n:ae)(σ:St):sf o 27 (Ae (PT (LZ 0))) (eg (H8 c way asc n p)) σ=aa ([.a4 56,refOf kN],σ)/\DQ o 28 (Zb (LZ 0)) (eg (H8 c way asc n p)) σ=aa (.eN (BL c.k c.w n),σ)/\sf o 27 (Ae (PT (LZ 1))) (eg (H8 c way asc n p)) σ=aa ([.a4 56,refOf kS],σ):=⟨⋯,⋯,⋯⟩
theorem adM(n w:ae)(k:aE)(σ:St):([aq,ai].map λs=>DQ o 28 (Zb (LZ 1)) (eg (H8 ⟨a,w,k,s⟩ way asc n p)) σ)=[aq,ai].map λs=>aa (.eN (stB s),σ):=⋯
theorem v21(n:ae)(l:V):([[],[MO.list l]].map λxs=>(bh 3).map λway=>dn o 21 (eg (H8 c way asc n p)) (FF c f F G h p o0 od q M he e n way (Zc F G h p n++xs)))=
  [[],[MO.list l]].map λxs=>(bh 3).map λway=>aa ((.ret (.bool aq),eg (H8 c way asc n p)),FF c f F G h p o0 od q M he e n way (Zc F G h p n++(xs++[.dict .nil 0,.dict .nil 0]))):=⋯
end
section
theorem FI{f:V->V->ao aE}:∀{l:ab V},(∀x∈l,f x x=aa aq)->Xz f (cu l) (cu l)=aa aq
 |[],c=>rfl|a::r,h=>by
  have b:=h a ax;have d:=FI (l:=r) λx g=>h x (aK _ g);show(match f a a with|some x=>(match Xz f (cu r) (cu r) with|some y=>aa (and x y)|none=>aw)|none=>aw)=aa aq
  rw[b,d];rfl
theorem zH:∀l:ab ae,V5 l l=aa aq
 |[]=>rfl|a::r=>by
  show cS (au (bz a 256) (bz a 256)) (V5 r r) (aa ai)=aa aq;rw[eL];exact zH r
theorem PU(i:Int):Z4 i i=aq:=by cases i<;>exact eL _
theorem JW(l:ab ae)(σ:St):qI .NotEq (.eN l) (.eN l) σ=aa (ai,σ):=by
 show(opt (V5 l l) λt=>rt (dU t)) σ=_;rw[zH];rfl
theorem UB(h:ae->ae)(n:ae)(σ:St):qI .NotEq (tO h n) (tO h n) σ=aa (ai,σ):=by
 have e:vEq (tO h n) (tO h n)=aa aq:=by
  refine FI λx b=>?_;obtain⟨i,_,rfl⟩:=bF.mp b;show(match (aa (Z4 (.ofNat (ar i)) (.ofNat (ar i))):ao aE) with|some x=>(match (match V5 (PQ h i) (PQ h i) with|some x=>aa (and x aq)|none=>aw) with|some y=>aa (and x y)|none=>aw)|none=>aw)=aa aq
  rw[PU,zH];rfl
 show(opt (vEq (tO h n) (tO h n)) λt=>rt (dU t)) σ=_;rw[e];rfl
end
section
variable{o:ae->ab V->Rm V}{i:ae}{re:aX}{σ σ1 DP Wy:St}
theorem PV(S:iq (bT 229).sc (gz i)=⟨λι r re=>mx (r.tr (bT 229).sc c re) (r.ex (bT 229).sc x re) (r.ex (bT 229).sc [] re)⟩)(hT:Kn (bT 229).sc c=⟨λι r re=>orT r (bT 229).sc re [a,b]⟩)(d:(bg (dc o) 29).tr (bT 229).sc a re σ=aa (ai,σ1))(g:(bg (dc o) 29).tr (bT 229).sc b re σ1=aa (ai,DP)):dn o i re σ=aa ((.next,re),DP):=by
 have h:(bg (dc o) 30).tr (bT 229).sc c re σ=aa (ai,DP):=by
  show(Kn (bT 229).sc c).f (dc o) (bg (dc o) 29) re σ=_;rw[hT];show b8 ((bg (dc o) 29).tr (bT 229).sc a re) (λt=>cS t (rt aq) (mx ((bg (dc o) 29).tr (bT 229).sc b re) (rt aq) (rt ai))) σ=_;rw[cw d];show b8 ((bg (dc o) 29).tr (bT 229).sc b re) (λt=>cS t (rt aq) (rt ai)) σ1=_;rw[cw g];rfl
 unfold dn;rw[JV S h];rfl
theorem H9(hT:Kn (bT 229).sc b=⟨λι r re=>b8 (r.ev (bT 229).sc x re) λu=>b8 (r.ev (bT 229).sc y re) λv=>qI .NotEq u v⟩)(d:DQ o 28 x re σ=aa (u,σ1))(g:DQ o 28 y re σ1=aa (v,DP))(h:qI .NotEq u v DP=aa (ai,DP)):
  (bg (dc o) 29).tr (bT 229).sc b re σ=aa (ai,DP):=by
 show(Kn (bT 229).sc b).f (dc o) (bg (dc o) 28) re σ=_;rw[hT];show b8 (DQ o 28 x re) (λu=>b8 (DQ o 28 y re) λv=>qI .NotEq u v) σ=_;rw[cw d];show b8 (DQ o 28 y re) (λv=>qI .NotEq u v) σ1=_;rw[cw g];exact h
end
section
variable{o:ae->ab V->Rm V}{c:Cfg}{asc:aE}{f F G h:ae->ae}{p:ae×ae}{o0 od:MO}{q:ab (ae×Int)}{M:ab ae}{he e way n:ae}{σ:St}
theorem Zd(hp:p∈bu)(w:way∈bh 3)(d:o 125 [.a4 54,.str q4] (oR c f F G h h p o0 od q M he e (nP p) way)=aa (tO h (nP p),oR c f F G h h p o0 od q M he e (nP p) way)):
  dn o 18 (eg (RP c way asc (nP p) p)) (oR c f F G h h p o0 od q M he e (nP p) way)=aa ((.next,eg (RP c way asc (nP p) p)),UA c f F G h p o0 od q M he e (nP p) way):=by
 obtain⟨z1,z⟩:=av (cN (k:=λι=>bh 3) (adJ o c asc f F G h o0 od q M he e) hp w);obtain⟨z2,z3⟩:=av z;exact PV (c:=c18) (a:=Uy (Uz c18) 0) (b:=WJ) (x:=Y' (gz 18)) (⋯) (⋯) (adI ..)
  (H9 (x:=PT WJ) (y:=Zb WJ) (⋯) (JT (a:=atO (yb (PT WJ))) (es:=Ae (PT WJ)) (k:=104268300210368358) (j:=125) (c:=11) (⋯) z1 z2 (⋯) z3 d) (cN (k:=λι=>bh 3) (adK o c asc f F G h o0 od q M he e) hp w) (UB ..))
theorem Ze(d:o 163 [.a4 56,refOf kN] σ=aa (.eN (BL c.k c.w n),σ))(j:o 163 [.a4 56,refOf kS] σ=aa (.eN (stB c.s),σ)):dn o 20 (eg (H8 c way asc n p)) σ=aa ((.next,eg (H8 c way asc n p)),σ):=by
 obtain⟨z1,z2,z3⟩:=adL o c asc p way n σ;have z4:DQ o 28 (Zb (LZ 1)) (eg (H8 c way asc n p)) σ=aa (.eN (stB c.s),σ):=a5 (adM o asc p way c.a n c.w c.k σ) (by cases c.s<;>simp:c.s∈[aq,ai])
 have call:∀{x g:aQ}{es:ab aQ}{vs:ab V}{v:V},qk (bT 229).sc x=⟨λT r re=>b8 (r.ev (bT 229).sc g re) λv=>b8 (te r (bT 229).sc re es) λvs=>w_ T r v vs⟩->(bg (dc o) 27).ev (bT 229).sc g (eg (H8 c way asc n p)) σ=aa (.fn 163,σ)->sf o 27 es (eg (H8 c way asc n p)) σ=aa (vs,σ)->o 163 vs σ=aa (v,σ)->
   DQ o 28 x (eg (H8 c way asc n p)) σ=aa (v,σ):=λA hf m t=>u9 (T:=dc o) (k:=163) A hf m (kT (T:=dc o) (k:=163) t)
 exact PV (c:=c20) (a:=LZ 0) (b:=LZ 1) (x:=Y' (gz 20)) (⋯) (⋯) (H9 (x:=PT (LZ 0)) (y:=Zb (LZ 0)) (⋯) (call (g:=yb (PT (LZ 0))) (⋯) (⋯) z1 d) z2 (JW ..))
  (H9 (x:=PT (LZ 1)) (y:=Zb (LZ 1)) (⋯) (call (g:=yb (PT (LZ 1))) (⋯) (⋯) z3 j) z4 (JW ..))
end
section
variable{r:Rec}{sc:Sc}{xs:ab ae}{ifs:ab aQ}{BM:aX->V->Rm (aX×V)}{m:ae}{i j:It}{v acc:V}{re re1:aX}{σ σ1 DP:St}{p:aX×V}
theorem FJ(h:fP σ i=aa (aa (v,j)))(a:d9 xs j v re=aa re1){t:aE}(b:th r sc re1 ifs σ=aa (t,σ1)):gx r sc xs ifs BM (m+1) i re acc σ=cS t (b8 (BM re1 acc) λp=>gx r sc xs ifs BM m j p.1 p.2) (gx r sc xs ifs BM m j re1 acc) σ1:=by
 show Aa i (rt (re,acc)) (λv j=>opt (d9 xs j v re) λre1=>mx (th r sc re1 ifs) (b8 (BM re1 acc) λp=>gx r sc xs ifs BM m j p.1 p.2) (gx r sc xs ifs BM m j re1 acc)) σ=_;unfold Aa;rw[h];show opt (d9 xs j v re) _ σ=_;rw[a];show b8 (th r sc re1 ifs) (λt=>cS t (b8 (BM re1 acc) λp=>gx r sc xs ifs BM m j p.1 p.2) (gx r sc xs ifs BM m j re1 acc)) σ=_;rw[cw b]
theorem kV(h:fP σ i=aa (aa (v,j)))(a:d9 xs j v re=aa re1)(b:th r sc re1 ifs σ=aa (aq,σ1))(d:BM re1 acc σ1=aa (p,DP)):gx r sc xs ifs BM (m+1) i re acc σ=gx r sc xs ifs BM m j p.1 p.2 DP:=by
 rw[FJ h a b];exact cw (f:=λp=>gx r sc xs ifs BM m j p.1 p.2) d
theorem L0(h:fP σ i=aa (aa (v,j)))(a:d9 xs j v re=aa re1)(b:th r sc re1 ifs σ=aa (ai,σ1)):gx r sc xs ifs BM (m+1) i re acc σ=gx r sc xs ifs BM m j re1 acc σ1:=FJ h a b
theorem vd(h:fP σ i=aa aw):gx r sc xs ifs BM (m+1) i re acc σ=aa ((re,acc),σ):=by
 show Aa i (rt (re,acc)) (λv j=>opt (d9 xs j v re) λre1=>mx (th r sc re1 ifs) (b8 (BM re1 acc) λp=>gx r sc xs ifs BM m j p.1 p.2) (gx r sc xs ifs BM m j re1 acc)) σ=_;unfold Aa;rw[h];rfl
end
def a9:cF:=iM (Y' (gz 9))
def l9:aQ:=i5 a9
section
variable(o:ae->ab V->Rm V)(c:Cfg)(asc:aE)(f F G:ae->ae)(p:ae×ae)(o0:MO)(q:ab (ae×Int))(M:ab ae)(n:ae)
def sA(xs:ab MO):St:=gN (o6 o0 q p f f (oh f p.1)++(abJ c M Y6 0 mD++xs))
def nz:St:=sA c f p o0 q M []
def H_:St:=sA c f p o0 q M [.list (aC F p.1)]
def UC:St:=sA c f p o0 q M [.list (aC F p.1),.list (aC G p.2)]
def w9:aX:=jj [nm "side"] (eg (e8 c 2 asc n p 5))
def UD:aX:=jY (w9 c asc p n) (nm "side") (.a4 3)
def WK:aX:=jY (UD c asc p n) (nm "side") (.a4 4)
theorem v0a(σ:St):dn o 0 (eg e0) σ=dn (xM (o 220 [.a4 0] σ)) 0 (eg e0) σ:=⋯
theorem v0b(σ τ:St):dn (xM (aa (.a4 1,τ))) 0 (eg e0) σ=aa ((.next,eg e1),τ):=⋯
theorem v9n:(fP (nz c f p o0 q M) (.kx 5 0),fP (H_ c f F p o0 q M) (.kx 5 1),fP (UC c f F G p o0 q M) (.kx 5 2),la (bg (dc o) 28) (bT 229).sc (wD l9) (eg (e8 c 2 asc n p 5)) (nz c f p o0 q M),qj (lX (.cons (.a4 66) (.cons (.a4 65) .nil)) .nil) (UC c f F G p o0 q M))=
  (aa (aa (.a4 3,.kx 5 1)),aa (aa (.a4 4,.kx 5 2)),aa aw,aa (.kx 5 0,nz c f p o0 q M),aa (.a4 67,wB c f F G p o0 M 2 q)):=⋯
theorem v9t(σ:St):(bg (dc o) 30).tr (bT 229).sc (JU (gz 9)) (eg (e8 c 2 asc n p 5)) σ=aa (aq,σ)/\ui (bg (dc o) 29) (bT 229).sc (MF a9) (.a4 67) (eg (e8 c 2 asc n p 5)) σ=aa (eg (e9 c 2 asc n p),σ):=⟨⋯,⋯⟩
theorem v9e(σ:St):(d9 [nm "side"] (.kx 5 1) (.a4 3) (w9 c asc p n)=aa (UD c asc p n)/\d9 [nm "side"] (.kx 5 2) (.a4 4) (UD c asc p n)=aa (WK c asc p n))/\(te (bg (dc o) 27) (f5 l9) (UD c asc p n) (Ae (ku l9)) σ=aa ([.a4 3,.bool asc],σ)/\
  te (bg (dc o) 27) (f5 l9) (WK c asc p n) (Ae (ku l9)) σ=aa ([.a4 4,.bool asc],σ))/\((bg (dc o) 27).ev (f5 l9) (yb (ku l9)) (UD c asc p n) σ=aa (.fn 227,σ)/\(bg (dc o) 27).ev (f5 l9) (yb (ku l9)) (WK c asc p n) σ=aa (.fn 227,σ)):=
 ⟨⟨⋯,⋯⟩,⟨⋯,⋯⟩,⋯,⋯⟩
end
section
variable{o:ae->ab V->Rm V}{c:Cfg}{asc:aE}{f F G:ae->ae}{p:ae×ae}{o0:MO}{q:ab (ae×Int)}{M:ab ae}{n:ae}
def H'(a:ae->ab V->Rm V)(b:Cfg)(s:aE)(d:ae->ae)(e:ae->ae)(g:ae->ae)(h:ae×ae)(j:MO)(l:ab (ae×Int))(m:ab ae)(t:ae):Prop:=∀(k:a 227 [.a4 3,.bool s] (nz b d h j l m)=aa (.a4 65,H_ b d e h j l m))(u:a 227 [.a4 4,.bool s] (H_ b d e h j l m)=aa (.a4 66,UC b d e g h j l m)),dn a 9 (eg (e8 b 2 s t h 5)) (nz b d h j l m)=aa ((.next,eg (e9 b 2 s t h)),wB b d e g h j m 2 l)
def PX:=λx:((_×_)×_×_×_)×(_×_×_)×_×_×_=>H' x.1.1.1 x.1.1.2 x.1.2.1 x.1.2.2.1 x.1.2.2.2 x.2.1.1 x.2.1.2.1 x.2.1.2.2 x.2.2.1 x.2.2.2.1 x.2.2.2.2
def m4:=haveI:=abc;haveI:=acK;qy bB PX
namespace PY
def a:=m4.1.1.1
def b:=m4.1.1.2
def s:=m4.1.2.1
def d:=m4.1.2.2.1
def e:=m4.1.2.2.2
def g:=m4.2.1.1
def h:=m4.2.1.2.1
def j:=m4.2.1.2.2
def l:=m4.2.2.1
def m:=m4.2.2.2.1
def t:=m4.2.2.2.2
theorem ok:H' a b s d e g h j l m t:=by
 intro u w;obtain⟨x,z⟩:=av (v9n a b s d e g h j l m t);obtain⟨y,z⟩:=av z;obtain⟨C,z⟩:=av z;obtain⟨D,E⟩:=av z;obtain⟨t1,t2⟩:=v9t a b s h t (nz b d h j l m);have A:qk (f5 l9) (ku l9)=⟨λT r re=>b8 (r.ev (f5 l9) (yb (ku l9)) re) λv=>b8 (te r (f5 l9) re (Ae (ku l9))) λvs=>w_ T r v vs⟩:=⋯;obtain⟨⟨H,I⟩,⟨J,_⟩,L,_⟩:=v9e a b s h t (nz b d h j l m);obtain⟨_,⟨_,N⟩,_,O⟩:=v9e a b s h t (H_ b d e h j l m);have P:(bg (dc a) 28).ev (f5 l9) (ku l9) (UD b s h t) (nz b d h j l m)=aa (.a4 65,H_ b d e h j l m):=u9 (T:=dc a) (k:=227) A L J (kT (T:=dc a) (k:=227) u);have Q:(bg (dc a) 28).ev (f5 l9) (ku l9) (WK b s h t) (H_ b d e h j l m)=aa (.a4 66,UC b d e g h j l m):=u9 (T:=dc a) (k:=227) A O N (kT (T:=dc a) (k:=227) w);have i1:kK (bg (dc a) 28) (f5 l9) (ku l9) [] (UD b s h t) .nil (nz b d h j l m)=aa ((UD b s h t,.cons (.a4 65) .nil),H_ b d e h j l m):=cw (f:=λv=>eB (r5 .nil) (rt (UD b s h t,V.cons v .nil))) P;have i2:kK (bg (dc a) 28) (f5 l9) (ku l9) [] (WK b s h t) (.cons (.a4 65) .nil) (H_ b d e h j l m)=aa ((WK b s h t,.cons (.a4 66) (.cons (.a4 65) .nil)),UC b d e g h j l m):=cw (f:=λv=>eB (r5 (.cons (.a4 65) .nil)) (rt (WK b s h t,V.cons v (.cons (.a4 65) .nil)))) Q;have R:hM=87+1+1+1:=⋯;have S:FG l9=[]:=⋯;have U:gx (bg (dc a) 28) (f5 l9) [nm "side"] (FG l9) (kK (bg (dc a) 28) (f5 l9) (ku l9) []) hM (.kx 5 0) (w9 b s h t) .nil (nz b d h j l m)=aa ((WK b s h t,.cons (.a4 66) (.cons (.a4 65) .nil)),UC b d e g h j l m):=by
  rw[R,S,kV x H rfl i1,kV y I rfl i2,vd C]
 have W:qk (bT 229).sc l9=⟨λι r re=>b8 (la r (bT 229).sc (wD l9) re) λi=>b8 (gx r (f5 l9) [nm "side"] (FG l9) (kK r (f5 l9) (ku l9) []) hM i (jj [nm "side"] re) .nil) λh=>qj (lX h.2 .nil)⟩:=⋯;have he:(bg (dc a) 29).ev (bT 229).sc l9 (eg (e8 b 2 s t h 5)) (nz b d h j l m)=aa (.a4 67,wB b d e g h j m 2 l):=by
  show(qk (bT 229).sc l9).f (dc a) (bg (dc a) 28) (eg (e8 b 2 s t h 5)) (nz b d h j l m)=_;rw[W];show b8 (la (bg (dc a) 28) (bT 229).sc (wD l9) (eg (e8 b 2 s t h 5))) (λi=>b8 (gx (bg (dc a) 28) (f5 l9) [nm "side"] (FG l9) (kK (bg (dc a) 28) (f5 l9) (ku l9) []) hM i (w9 b s h t) .nil) λh=>qj (lX h.2 .nil)) (nz b d h j l m)=_;rw[cw D];show b8 (gx (bg (dc a) 28) (f5 l9) [nm "side"] (FG l9) (kK (bg (dc a) 28) (f5 l9) (ku l9) []) hM (.kx 5 0) (w9 b s h t) .nil) (λh=>qj (lX h.2 .nil)) (nz b d h j l m)=_;rw[cw U];exact E
 have X:iq (bT 229).sc (gz 9)=⟨λι r re=>mx (r.tr (bT 229).sc (JU (gz 9)) re) (r.ex (bT 229).sc [a9] re) (r.ex (bT 229).sc [] re)⟩:=⋯;have hT:iq (bT 229).sc a9=⟨λι r re=>b8 (r.ev (bT 229).sc l9 re) λv=>b8 (ui r (bT 229).sc (MF a9) v re) λre1=>rt (.next,re1)⟩:=⋯;unfold dn;rw[JV X t1];show x3 (dc a) (bg (dc a) 29) (bT 229).sc [a9] (eg (e8 b 2 s t h 5)) (nz b d h j l m)=_;refine(gm (re1:=eg (e9 b 2 s t h)) (σ1:=wB b d e g h j m 2 l) ?_).trans rfl;rw[hT];show b8 ((bg (dc a) 29).ev (bT 229).sc l9 (eg (e8 b 2 s t h 5))) (λv=>b8 (ui (bg (dc a) 29) (bT 229).sc (MF a9) v (eg (e8 b 2 s t h 5))) λre1=>rt (Fl.next,re1)) (nz b d h j l m)=_;rw[cw he];show b8 (ui (bg (dc a) 29) (bT 229).sc (MF a9) (.a4 67) (eg (e8 b 2 s t h 5))) (λre1=>rt (Fl.next,re1)) (wB b d e g h j m 2 l)=_;rw[cw (v9t a b s h t (wB b d e g h j m 2 l)).2];rfl
end PY
theorem abO:H' o c asc f F G p o0 q M n:=@d5 _ _ PX @PY.ok (((o,c),asc,f,F),(G,p,o0),q,M,n)
end
def Ia(N k:ae):ab cF:=(@eb (λι=>ae->ab cF) (λι=>[]) (λι d i=>gz i::d (ar i)) (mw N k) k)
theorem BN(h:k<N):Ia N k=gz k::Ia N (ar k):=by
 unfold Ia;rw[show mw N k=ar (mw N (ar k)) by show N - k=N - (k+1)+1;rw[DM,iF (o9 h)]]
def BO(o:ae->ab V->Rm V)(N k:ae)(l:ab (cZ×V)):Rm (Fl×aX):=x3 (dc o) (bg (dc o) 30) (bT 229).sc (Ia N k) (eg l)
section
variable{o:ae->ab V->Rm V}{l l1:ab (cZ×V)}{σ σ1:St}{v:V}{N:ae}
theorem en(k:ae)(hk:k<N)(h:dn o k (eg l) σ=aa ((.next,eg l1),σ1)):BO o N k l σ=BO o N (ar k) l1 σ1:=by
 unfold BO;exact(BN hk)▸gm h
theorem JX(k:ae)(hk:k<N)(h:dn o k (eg l) σ=aa ((.ret v,eg l1),σ1)):BO o N k l σ=aa ((.ret v,eg l1),σ1):=by
 unfold BO;exact(BN hk)▸mF h
theorem PZ(h:BO o 22 0 e0 σ=aa ((.ret v,eg l),σ1)):d' (dc o) (bg (dc o) 31) 229 [.a4 0] σ=aa (v,σ1):=by
 rw[jy (⋯) (⋯) (⋯)];have d:(bg (dc o) 31).ex (bT 229).sc (bT 229).body (eg e0) σ=aa ((.ret v,eg l),σ1):=by rw[(⋯:(bT 229).body=Ia 22 0)];exact h
 rw[cw d];rfl
end
def cM(c:Cfg):ab ae:=Gx 13 [32]++(Gx c.w [48]++[32,32])
def ni(c:Cfg):ab ae:=jK (joinM m0 (t0 c.w)) (aM 15 c.w)
def qb(way n e:ae)(p:ae×ae):ab (ae×Int):=cS (au way 0) [(9,.ofNat e)] [(ar n,.ofNat p.1),(9,.ofNat e)]
def FK(a way wd hk st x m:ae)(q:ab (ae×Int)):ab (ae×Int):=(3,.ofNat a)::(3,.ofNat way)::(2,.ofNat wd)::tk a hk st ((2,.ofNat x)::(9,.ofNat m)::q)
noncomputable def qE(e:ae):ab (ae×Int):=[(9,.ofNat e)]
def wF(way:ae):ab (ae×ae):=cS (au way 0) (i8.map λn=>(n,0)) bu
section
variable{o:ae->ab V->Rm V}{a way wd hk st x m e:ae}{p:ae×ae}{f F G:ae->ae}{o0:MO}{T4:ab (ae×Int)}{σ0:St}{abP:V}{N:ae}(hN:15<=N)
include hN
theorem abQ(i:(a,wd,hk,st)∈l2)(j:(ar wd,x,m)∈l3)(q:o 220 [.a4 0] σ0=aa (.a4 1,gN [o0,.jg (FK a way wd hk st x m T4)])):
  BO o N 0 e0 σ0=BO o N 4 (e4 (cfgOf a wd hk st) way (au x 0) (q_ m)) (gN [o0,.jg T4]):=by
 have k:a∈bh 3:=by
  obtain⟨r,k,h⟩:=b7.mp i;obtain⟨b,_,h⟩:=b7.mp h;obtain⟨d,_,h⟩:=b7.mp h;obtain⟨g,_,h⟩:=bF.mp h;injection h with h;subst h;exact k
 have s3:=a5 (v3 o o0 T4 way (Uu a) (abI a hk) (au st 1)) j;exact(en 0 (ae.zero_lt_of_lt hN) (via q (v0a o σ0) (v0b ..))).trans ((en 1 (cA hN) (a5 (v1 o o0 ((2,.ofNat wd)::tk a hk st ((2,.ofNat x)::(9,.ofNat m)::T4)) way) k)).trans ((en 2 (cA hN) (a5 (v2 o o0 ((2,.ofNat x)::(9,.ofNat m)::T4) way) i)).trans (en 3 (cA hN) s3)))
variable{c:Cfg}{asc:aE}{n:ae}
theorem abR(g:way∈bh 3)(hp:p∈wF way)(q:o 226 [.a4 1,.int (.ofNat (nP p))] (gN [o0,.jg T4])=aa (.a4 2,gN [o0,.jg (qb way (nP p) e p),.list (aC f (nP p))]))(r:o 225 [.str c.a,.int (.ofNat c.w),.bool c.k,.bool c.s] (gN (o6 o0 (qE e) p f f (oh f p.1)))=aa (.a4 56,nz c f p o0 (qE e) (cM c)))(t:o 164 [.a4 56,refOf kN,.eN (BK c.w)] (nz c f p o0 (qE e) (cM c))=aa (abP,nz c f p o0 (qE e) (ni c))):
  BO o N 4 (e4 c way asc (nP p)) (gN [o0,.jg T4])=BO o N 9 (e8 c way asc (nP p) p 5) (nz c f p o0 (qE e) (ni c)):=by
 have d:p∈bu/\dn o 5 (eg (e5 c way asc (nP p))) (gN [o0,.jg (qb way (nP p) e p),.list (aC f (nP p))])=aa ((.next,eg (e6 c way asc (nP p) p)),gN [o0,.jg (qE e),.list (aC f (nP p))]):=by
  have i:way=0\/way∈[1,2]:=by
   rcases aG.mp (show way∈0::[1,2] from g) with h|h
   ·exact .inl h
   ·exact .inr h
  rcases i with rfl|h
  ·obtain⟨n,j,rfl⟩:=bF.mp (show p∈i8.map λn=>(n,0) from hp)
   refine⟨?_,a5 (v5a o c asc f o0 (qE e)) j⟩;have:∀n∈i8,(n,0)∈bu:=by decide
   exact this n j
  ·have hb:au way 0=ai:=by
    rcases aG.mp h with rfl|h
    ·rfl
    ·rw[aJ.mp h];rfl
   have hp:=by unfold wF at hp;exact(hb▸hp)
   refine⟨hp,?_⟩;unfold qb;exact hb▸cN (v5b o c asc f o0 (qE e)) h hp
 exact(en 4 (cA hN) (via q (v4a o c way (nP p) asc _) (v4b c way (nP p) asc _ _))).trans ((en 5 (cA hN) d.2).trans ((en 6 (cA hN) (a5 (v6 o c way asc f o0 (qE e)) d.1)).trans ((en 7 (cA hN) (via r (a5 (v7a o c (nP p) asc p _) g) (a5 (v7b c (nP p) asc p _ _) g))).trans (en 8 (cA hN) (via t (v8a o c way (nP p) asc p _) (v8b c way (nP p) asc p abP _ _))))))
end
noncomputable def xp(e:ae):MO:=.dict (.cons (.cons (.int (.ofNat (aM 1 e))) abK) .nil) 1
section
variable{o:ae->ab V->Rm V}{c:Cfg}{asc b:aE}{way n e he:ae}{p:ae×ae}{f F G h:ae->ae}{o0 od:MO}{M:ab ae}{v v' v'' :V}{τ:St}
def Gg(c:Cfg)(f F G:ae->ae)(p:ae×ae)(o0:MO)(M:ab ae)(way e:ae):St:=sV c f F G p o0 M way [] (flB (bL way) (aM 3 (bL way))) 0 mD [.list (aC F p.1),.list (aC G p.2),H3 e,xp e]
theorem abS(hN:15<=N)(w:way∈bh 3)(i:dn o 9 (eg (e8 c way asc n p 5)) (nz c f p o0 (qE e) M)=aa ((.next,eg (e9 c way asc n p)),wB c f F G p o0 M way (qE e)))(d:o 123 [.a4 54,.str wi,.str mC,.a4 (lA way)] (wB c f F G p o0 M way (qE e))=aa (v,Gf c f F G p o0 M way (qE e)))(g:o 123 [.a4 54,.str zr,.str mC,.a4 (lB way)] (Gf c f F G p o0 M way (qE e))=aa (v',Uv c f F G p o0 M way (qE e)))(si:o 123 [.a4 54,.str q4,.str Lz,.a4 (aM 2 (bL way))] (H4 c f F G p o0 M way e [])=aa (v'',Gg c f F G p o0 M way e)):
  BO o N 9 (e8 c way asc n p 5) (nz c f p o0 (qE e) M)=BO o N 15 (LX c way asc n p) (Gg c f F G p o0 M way e):=by
 exact(en 9 (cA hN) i).trans ((en 10 (cA hN) (Y7 w d)).trans ((en 11 (cA hN) (Y8 w g)).trans ((en 12 (cA hN) (Y9 w si)).trans ((en 13 (cA hN) (v13 o c asc p way n (Gg c f F G p o0 M way e))).trans (en 14 (ae.lt_of_succ_le hN) (a5 (v14 o c asc p n (Gg c f F G p o0 M way e)) w))))))
theorem Zf(d:o 228 [.a4 56,gk way (.bool asc)] (Gg c f F G p o0 M way e)=aa (.bool b,τ)):BO o 22 15 (LX c way asc n p) (Gg c f F G p o0 M way e)=BO o 22 16 (H5 c way asc n p b) τ:=
 en 15 (by decide) (via d (adC o c asc p way n _) (adD c asc b p way n _ _))
theorem UE(σ:St)(d:(c,n)∈qs):BO o 22 16 (H5 c way asc n p ai) σ=aa ((.ret (.bool aq),eg (H5 c way asc n p ai)),σ):=by
 have h:=a5 (adF o asc p way σ) d;exact JX 16 (by decide) h
theorem abT(g:way∈bh 3)(hp:p∈bu)(u:c∈fL)(y:nP p∈kq c)(hk:(c.k,c.w,nP p)∈knL)(j:o 227 [.a4 (aM 5 (bL way)),.bool asc] (H6 c f F G h p o0 od [] M he e (nP p) way)=aa (.a4 (aM 6 (bL way)),LY c f F G h h p o0 od [] M he e (nP p) way))(q:o 125 [.a4 54,.str q4] (oR c f F G h h p o0 od [] M he e (nP p) way)=aa (tO h (nP p),oR c f F G h h p o0 od [] M he e (nP p) way))(r:o 163 [.a4 56,refOf kN] (sg c f F G h p o0 od [] M he e (nP p) c.k way)=aa (.eN (BL c.k c.w (nP p)),sg c f F G h p o0 od [] M he e (nP p) c.k way))(i:o 163 [.a4 56,refOf kS] (sg c f F G h p o0 od [] M he e (nP p) c.k way)=aa (.eN (stB c.s),sg c f F G h p o0 od [] M he e (nP p) c.k way)):
  ∃l τ,BO o 22 16 (H5 c way asc (nP p) p aq) (FF c f F G h p o0 od [] M he e (nP p) way [])=aa ((.ret (.bool aq),eg l),τ):=by
 have t:dn o 19 (eg (RP c way asc (nP p) p)) (UA c f F G h p o0 od [] M he e (nP p) way)=aa ((.next,eg (H8 c way asc (nP p) p)),sg c f F G h p o0 od [] M he e (nP p) c.k way):=by
  rcases c;exact cN (v19 o asc f F G h p o0 od [] M he e _ _) hk g
 have z:exT c.k (nP p)=[]\/∃l,exT c.k (nP p)=[.list l]:=by
  unfold exT
  induction c.k with
  |false=>exact .inl rfl|true=>induction bH 0 (nP p) with
   |false=>exact .inl rfl|true=>exact .inr ⟨_,rfl⟩
 have d:∃l τ,dn o 21 (eg (H8 c way asc (nP p) p)) (sg c f F G h p o0 od [] M he e (nP p) c.k way)=aa ((.ret (.bool aq),eg l),τ):=by
  unfold sg;rcases z with h|⟨l,h⟩
  ·exact h▸⟨_,_,cN (v21 o c asc f F G _ p o0 od [] M he e (nP p) .nil) ax g⟩
  ·exact h▸⟨_,_,cN (v21 o c asc f F G _ p o0 od [] M he e (nP p) l) (aK _ ax) g⟩
 obtain⟨l,τ,d⟩:=d;exact⟨l,τ,(en 16 (by decide) (cN (adE o asc aq p way (FF c f F G h p o0 od [] M he e (nP p) way [])) u y)).trans ((en 17 (by decide) (Y_ hp g j)).trans ((en 18 (by decide) (Zd hp g q)).trans ((en 19 (by decide) t).trans ((en 20 (by decide) (Ze r i)).trans (JX 21 (by decide) d)))))⟩
end
section
variable(c:Cfg)(q:ab (ae×Int))
noncomputable def BP(c:Cfg):ab V:=[.str c.a,.int (.ofNat c.w),.bool c.k,.bool c.s]
def w1(c:Cfg):ab MO:=shW 1 (Pf (.str c.a) c.w (.str c.key) (.str c.st))
theorem Zg:(fL.map λc=>p6 1 (mq 1) (lM T0 60 225 (BP c) [.jg q]))=fL.map λc=>aa (.a4 51,d6 [] [.jg q],w1 c):=⋯
variable(f:ae->ae)(p:ae×ae)(o0:MO)
theorem Zh:q6 [1] (BP c) (gN (o6 o0 q p f f (oh f p.1)))=aa (BP c,[.jg q]):=⋯
theorem UG:j_ [1] (λι ι=>aa (.a4 51,[],w1 c)) (BP c) (gN (o6 o0 q p f f (oh f p.1)))=aa (.a4 56,nz c f p o0 q (cM c)):=⋯
theorem UH(h:c∈fL):Good 129 225 (BP c) (gN (o6 o0 q p f f (oh f p.1))) (.a4 56) (nz c f p o0 q (cM c)):=
 d8 (n:=0) (b:=8) (N:=60) (lab:=[1]) (ups:=[]) (ks:=mq 1) ⟨bj _,aF _⟩ eQ (Zh c q f p o0) (a5 (Zg q) h) (UG c q f p o0)
end
noncomputable def Zi(p k:ab ae)(v:V):V:=.cons (.str p) (.tup (.cons (.str k) (.cons v .nil)))
def Ib(v:V):MO:=.dict (.cons (Zi wi mC v) .nil) 1
def L1(v w:V):MO:=.dict (.cons (Zi wi mC v) (.cons (Zi zr mC w) .nil)) 2
def P2:ab V:=[.a4 0,.str wi,.str mC,.a4 2]
def P4:ab V:=[.a4 0,.str zr,.str mC,.a4 2]
def Ic:ab V:=[.a4 0,.str q4,.str Lz,.a4 2]
def P5:ab V:=[.a4 0,.str q4]
def JY(q1 q2:ae)(h:ae->ae)(n:ae):ab MO:=[FE 1,lO (.gH q1) (.gH q2) (.a4 2),.dict (AJ h n) (ar n)]
section
variable(f:ae->ae)(q1 q2:ae)
theorem Zj:((bh 13).map λk=>p6 3 [3] (lM T0 60 123 P2 [FE 1,Y6,.list (aC f k)]))=(bh 13).map λk=>aa (.none,d6 [(1,Ib (.a4 3))] [FE 1,Y6,.list (aC f k)],[.list (aC f k)]):=⋯
theorem Zk:((bh 13).map λk=>p6 3 [3] (lM T0 60 123 P4 [FE 1,Ib (.gH q1),.list (aC f k)]))=(bh 13).map λk=>aa (.none,d6 [(1,L1 (.gH q1) (.a4 3))] [FE 1,Ib (.gH q1),.list (aC f k)],[.list (aC f k)]):=⋯
theorem UI:((bh 9).map λe=>p6 3 [5] (lM T0 60 123 Ic [FE 1,L1 (.gH q1) (.gH q2),H3 e]))=(bh 9).map λe=>aa (.none,d6 [(1,lO (.gH q1) (.gH q2) (.a4 3))] [FE 1,L1 (.gH q1) (.gH q2),H3 e],[xp e]):=⋯
theorem Zl:((bh 13).map λn=>p6 3 [] (lM T0 60 125 P5 (JY q1 q2 f n)))=(bh 13).map λn=>aa (tO f n,d6 [] (JY q1 q2 f n),[]):=⋯
end
section
variable(c:Cfg)(f F G h:ae->ae)(o0 od:MO)(q:ab (ae×Int))(M:ab ae)(he e:ae)
theorem Zm:(bu.map λp=>(bh 3).map λway=>q6 [54,55,lA way] [.a4 54,.str wi,.str mC,.a4 (lA way)] (wB c f F G p o0 M way q))=bu.map λp=>(bh 3).map λway=>aa (P2,[FE 1,Y6,.list (aC F p.1)]):=⋯
theorem UJ:(bu.map λp=>(bh 3).map λway=>j_ [54,55,lA way] (λι ι=>aa (.none,[(1,Ib (.a4 3))],[.list (aC F p.1)])) [.a4 54,.str wi,.str mC,.a4 (lA way)] (wB c f F G p o0 M way q))=bu.map λp=>(bh 3).map λway=>aa (.none,Gf c f F G p o0 M way q):=⋯
theorem Zn:(bu.map λp=>(bh 3).map λway=>q6 [54,55,lB way] [.a4 54,.str zr,.str mC,.a4 (lB way)] (Gf c f F G p o0 M way q))=bu.map λp=>(bh 3).map λway=>aa (P4,[FE 1,Ib (.gH (bP 2 (bL way))),.list (aC G p.2)]):=⋯
theorem UK:(bu.map λp=>(bh 3).map λway=>j_ [54,55,lB way] (λι ι=>aa (.none,[(1,L1 (.gH (bP 2 (bL way))) (.a4 3))],[.list (aC G p.2)])) [.a4 54,.str zr,.str mC,.a4 (lB way)] (Gf c f F G p o0 M way q))=bu.map λp=>(bh 3).map λway=>aa (.none,Uv c f F G p o0 M way q):=⋯
def P6(way:ae):ab ae:=[54,55,aM 2 (bL way)]
def abU(way:ae):MO:=L1 (.gH (bP 2 (bL way))) (.gH (bP 2 (ar (bL way))))
def UL(way:ae):ab V:=[.a4 54,.str q4,.str Lz,.a4 (aM 2 (bL way))]
theorem UM(p:ae×ae):((bh 3).map λway=>q6 (P6 way) (UL way) (H4 c f F G p o0 M way e q))=(bh 3).map λway=>aa (Ic,[FE 1,abU way,H3 e]):=⋯
theorem P7(p:ae×ae):((bh 3).map λway=>j_ (P6 way) (λι ι=>aa (.none,[(1,lO (.gH (bP 2 (bL way))) (.gH (bP 2 (ar (bL way)))) (.a4 3))],[xp e])) (UL way) (H4 c f F G p o0 M way e []))=(bh 3).map λway=>aa (.none,Gg c f F G p o0 M way e):=⋯
def P8(way:ae):ab ae:=[54,55,aM 4 (bL way)]
def UN:ab V:=[.a4 54,.str q4]
theorem Zo:(bu.map λp=>(bh 3).map λway=>q6 (P8 way) UN (oR c f F G h h p o0 od q M he e (nP p) way))=bu.map λp=>(bh 3).map λway=>aa (P5,JY (bP 2 (bL way)) (bP 2 (ar (bL way))) h (nP p)):=⋯
theorem UO:(bu.map λp=>(bh 3).map λway=>j_ (P8 way) (λι ι=>aa (tO h (nP p),[],[])) UN (oR c f F G h h p o0 od q M he e (nP p) way))=bu.map λp=>(bh 3).map λway=>aa (tO h (nP p),oR c f F G h h p o0 od q M he e (nP p) way):=⋯
end
section
variable{c:Cfg}{f F G h:ae->ae}{o0 od:MO}{q:ab (ae×Int)}{M:ab ae}{he e way:ae}{p:ae×ae}
theorem wG(hp:p∈bu):p.1∈bh 13/\p.2∈bh 13/\nP p∈bh 13:=by
 have h:(bu.map λp=>(cf p.1 12,cf p.2 12,cf (nP p) 12))=bu.map λι=>(aq,aq,aq):=⋯;obtain⟨a,z⟩:=av (a5 h hp);obtain⟨b,d⟩:=av z;exact⟨da (ew (bx a)),da (ew (bx b)),da (ew (bx d))⟩
theorem UP(hp:p∈bu)(w:way∈bh 3):Good 129 123 [.a4 54,.str wi,.str mC,.a4 (lA way)] (wB c f F G p o0 M way q) .none (Gf c f F G p o0 M way q):=
 d8 (n:=0) (b:=8) (N:=60) (lab:=[54,55,lA way]) (ks:=[3]) (as0:=P2) (mu0:=[FE 1,Y6,.list (aC F p.1)]) (v:=.none) (ups:=[(1,Ib (.a4 3))]) (nw:=[.list (aC F p.1)]) ⟨bj _,aF _⟩ eQ
  (cN (k:=λι=>bh 3) (Zm c f F G o0 q M) hp w) (a5 (Zj F) (wG hp).1) (cN (k:=λι=>bh 3) (UJ c f F G o0 q M) hp w)
theorem UQ(hp:p∈bu)(w:way∈bh 3):Good 129 123 [.a4 54,.str zr,.str mC,.a4 (lB way)] (Gf c f F G p o0 M way q) .none (Uv c f F G p o0 M way q):=
 d8 (n:=0) (b:=8) (N:=60) (lab:=[54,55,lB way]) (ks:=[3]) (as0:=P4) (mu0:=[FE 1,Ib (.gH (bP 2 (bL way))),.list (aC G p.2)]) (v:=.none) (ups:=[(1,L1 (.gH (bP 2 (bL way))) (.a4 3))]) (nw:=[.list (aC G p.2)]) ⟨bj _,aF _⟩ eQ
  (cN (k:=λι=>bh 3) (Zn c f F G o0 q M) hp w) (a5 (Zk G _) (wG hp).2.1) (cN (k:=λι=>bh 3) (UK c f F G o0 q M) hp w)
theorem P9(he:e∈bh 9)(w:way∈bh 3):Good 129 123 (UL way) (H4 c f F G p o0 M way e []) .none (Gg c f F G p o0 M way e):=
 d8 (n:=0) (b:=8) (N:=60) (lab:=P6 way) (ks:=[5]) (as0:=Ic) (mu0:=[FE 1,abU way,H3 e]) (v:=.none) (ups:=[(1,lO (.gH (bP 2 (bL way))) (.gH (bP 2 (ar (bL way)))) (.a4 3))]) (nw:=[xp e]) ⟨bj _,aF _⟩ eQ
  (a5 (UM c f F G o0 [] M e p) w) (a5 (UI _ _) he) (a5 (P7 c f F G o0 M e p) w)
theorem UR(hp:p∈bu)(w:way∈bh 3):Good 129 125 UN (oR c f F G h h p o0 od q M he e (nP p) way) (tO h (nP p)) (oR c f F G h h p o0 od q M he e (nP p) way):=
 d8 (n:=0) (b:=8) (N:=60) (lab:=P8 way) (ks:=[]) (as0:=P5) (mu0:=JY (bP 2 (bL way)) (bP 2 (ar (bL way))) h (nP p)) (v:=tO h (nP p)) (ups:=[]) (nw:=[]) ⟨bj _,aF _⟩ eQ
  (cN (k:=λι=>bh 3) (Zo c f F G h o0 od q M he e) hp w) (a5 (Zl h _ _) (wG hp).2.2) (cN (k:=λι=>bh 3) (UO c f F G h o0 od q M he e) hp w)
end
def wS(c:Cfg)(M:ab ae):ab MO:=wq c.a c.w c.key c.st M Y6 0 mD
def BQ(c:Cfg)(l:ae):ab V:=[.a4 l,refOf kN,.eN (BK c.w)]
def wH(w:ae)(m:ae->ae):ab ae:=cS (au w 1) [m 13] [m 13,m 14]
noncomputable def Dm(w:ae)(m:ae->ae):ab ae:=[m (aM 13 w),m (ar (aM 13 w))]
def wE'(c:Cfg)(m:ae->ae)(q1 q2 q3 he:ae):ab MO:=wq c.a c.w c.key c.st (jK m (aM 15 c.w)) (lO (.gH q1) (.gH q2) (.gH q3)) he HM
section
variable(c:Cfg)(m:ae->ae)(q1 q2 q3 he:ae)
theorem Zp:(fL.map λc=>p6 59 [] (lM (T1 c.w) 60 164 (BQ c 50) (wS c (cM c))))=fL.map λc=>aa (.none,d6 [(53,.jv (ni c))] (wS c (cM c)),[]):=⋯
theorem Zq:(fL.map λc=>(p6 59 [] (lM (T1 c.w) 60 163 [.a4 50,refOf kN] (wE' c m q1 q2 q3 he)),p6 59 [] (lM (T1 c.w) 60 163 [.a4 50,refOf kS] (wE' c m q1 q2 q3 he))))=
  fL.map λc=>(aa (.eN (wH c.w m),d6 [] (wE' c m q1 q2 q3 he),[]),aa (.eN (Dm c.w m),d6 [] (wE' c m q1 q2 q3 he),[])):=⋯
variable(f F G h:ae->ae)(p:ae×ae)(o0 od:MO)(q:ab (ae×Int))(e n:ae)(xs:ab MO)
theorem Zr:q6 WI (BQ c 56) (nz c f p o0 q (cM c))=aa (BQ c 50,wS c (cM c)):=⋯
theorem US:j_ WI (λι ι=>aa (.none,[(53,.jv (ni c))],[])) (BQ c 56) (nz c f p o0 q (cM c))=aa (.none,nz c f p o0 q (ni c)):=⋯
theorem UT(a:c∈fL):Good 250 164 (BQ c 56) (nz c f p o0 q (cM c)) .none (nz c f p o0 q (ni c)):=by
 have l:eP (wS c (cM c))=59:=⋯;refine d8 (n:=129) (b:=129) (N:=60) (lab:=WI) (ks:=[]) ⟨aF _,by decide⟩ (u7 (kU a)) (Zr c f p o0 q) ?_ (US c f p o0 q)
 rw[l];exact a5 Zp a
def sOc(way:ae)(xs:ab MO):St:=FF c f F G h p o0 od q (jK m (aM 15 c.w)) he e n way xs
noncomputable def O3(l:V):ab (ab MO):=[[],[MO.list l]]
theorem P_(l:V)(r:ab ae)(a:r=kN\/r=kS):((bh 3).map λway=>(O3 l).map λxs=>q6 WI [.a4 56,refOf r] (sOc c m he f F G h p o0 od q e n way (Zc F G h p n++xs)))=
  (bh 3).map λway=>(O3 l).map λι=>aa ([.a4 50,refOf r],wE' c m (bP 2 (bL way)) (bP 2 (ar (bL way))) (bP 2 (aM 4 (bL way))) he):=by rcases a with rfl|rfl<;>kernel_rfl
theorem JZ(l:V)(r:ab ae)(d:r=kN\/r=kS)(a b:ae):((bh 3).map λway=>(O3 l).map λxs=>([[a],[a,b]].map λv=>j_ WI (λι ι=>aa (.eN v,[],[])) [.a4 56,refOf r] (sOc c m he f F G h p o0 od q e n way (Zc F G h p n++xs))))=
  (bh 3).map λway=>(O3 l).map λxs=>([[a],[a,b]].map λv=>aa (.eN v,sOc c m he f F G h p o0 od q e n way (Zc F G h p n++xs))):=by rcases d with rfl|rfl<;>kernel_rfl
end
section
variable{c:Cfg}{m:ae->ae}{he:ae}{f F G h:ae->ae}{p:ae×ae}{o0 od:MO}{q:ab (ae×Int)}{e n way:ae}{k:aE}
theorem Zs:∃l,exT k n∈O3 l:=by
 unfold exT
 induction k with
 |false=>exact⟨.nil,ax⟩|true=>induction bH 0 n with
  |false=>exact⟨.nil,ax⟩|true=>exact⟨_,aK _ ax⟩
theorem UU(g:c∈fL)(a:way∈bh 3):
  Good 250 163 [.a4 56,refOf kN] (sg c f F G h p o0 od q (jK m (aM 15 c.w)) he e n k way) (.eN (wH c.w m)) (sg c f F G h p o0 od q (jK m (aM 15 c.w)) he e n k way)/\
  Good 250 163 [.a4 56,refOf kS] (sg c f F G h p o0 od q (jK m (aM 15 c.w)) he e n k way) (.eN (Dm c.w m)) (sg c f F G h p o0 od q (jK m (aM 15 c.w)) he e n k way):=by
 obtain⟨l,d⟩:=Zs (k:=k) (n:=n);obtain⟨r,i⟩:=av (a5 (Zq m (bP 2 (bL way)) (bP 2 (ar (bL way))) (bP 2 (aM 4 (bL way))) he) g);have L:eP (wE' c m (bP 2 (bL way)) (bP 2 (ar (bL way))) (bP 2 (aM 4 (bL way))) he)=59:=⋯;have j:∀m,wH c.w m∈[[m 13],[m 13,m 14]]:=λm=>by
  unfold wH
  induction au c.w 1 with
  |true=>exact ax|false=>exact aK _ ax
 have o:=a5 (cN (k:=λι=>O3 l) (JZ c m he f F G h p o0 od q e n l kN (.inl rfl) (m 13) (m 14)) a d) (j m);have s:=a5 (cN (k:=λι=>O3 l) (JZ c m he f F G h p o0 od q e n l kS (.inr rfl) (m (aM 13 c.w)) (m (ar (aM 13 c.w)))) a d) (aK _ ax);refine⟨d8 (n:=129) (b:=129) (N:=60) (lab:=WI) (ks:=[]) (ups:=[]) (nw:=[]) ⟨aF _,by decide⟩ (u7 (kU g)) (cN (k:=λι=>O3 l) (P_ c m he f F G h p o0 od q e n l kN (.inl rfl)) a d) ?_ o,
  d8 (n:=129) (b:=129) (N:=60) (lab:=WI) (ks:=[]) (ups:=[]) (nw:=[]) ⟨aF _,by decide⟩ (u7 (kU g)) (cN (k:=λι=>O3 l) (P_ c m he f F G h p o0 od q e n l kS (.inr rfl)) a d) ?_ s⟩
 ·rw[L];exact r
 ·rw[L];exact i
end
def zI(way:ae):ab ae:=WI++[bL way,ar (bL way),aM 3 (bL way)]
def Ie(c:Cfg)(F G:ae->ae)(p:ae×ae)(M:ab ae)(e:ae):ab MO:=AH c.a c.key c.st c.w M 0 mD++[.list (aC F p.1),.list (aC G p.2),xp e]
def DR(way:ae):ae:=cS (au way 0) 4 6
def Zt(c:Cfg)(M:ab ae)(he:ae):ab (ae×MO):=[(53,.jv M),(49,lO (.a4 59) (.a4 60) (.a4 62)),(56,.dict .nil he),(58,HM)]
def nwB(h:ae->ae)(n:ae):ab MO:=[.dict (AJ h n) (ar n)]
section
variable(c:Cfg)(f F G h:ae->ae)(o0:MO)(M M' :ab ae)(e:ae)(asc:aE)(old:V)
theorem Qa:(bu.map λp=>(bh 3).map λway=>q6 (zI way) [.a4 56,gk way (.bool asc)] (Gg c f F G p o0 M way e))=bu.map λp=>(bh 3).map λway=>aa ([.a4 50,gk way (.bool asc)],Ie c F G p M e):=⋯
theorem UW:(bu.map λp=>(bh 3).map λway=>j_ (zI way) (λι ι=>aa (.bool aq,Zt c M' (DR way),nwB h (nP p))) [.a4 56,gk way (.bool asc)] (Gg c f F G p o0 M way e))=
  bu.map λp=>(bh 3).map λway=>aa (.bool aq,FF c f F G h p o0 (xp e) [] M' (DR way) e (nP p) way []):=⋯
def sEn(way:ae)(p:ae×ae)(old:V):St:=AI (aC F p.1) (aC G p.2) (.bool asc) (xp e) way (PB c.a c.key c.st c.w M' (DR way) HM) [sR 69 aq,.list old,.list (aC h (nP p)),.dict (AJ h (nP p)) (ar (nP p))]
def L3(F G:ae->ae)(p:ae×ae)(way:ae):V:=cS (au way 0) (aC F p.1) (iI F G p)
theorem abV:((bu.map λp=>(bh 3).map λway=>(p6 62 [70] (aa (.bool aq,sEn c F G h M' e asc way p (L3 F G p way))))))=
  bu.map λp=>(bh 3).map λway=>aa (.bool aq,d6 (Zt c M' (DR way)) (Ie c F G p M e),nwB h (nP p)):=⋯
end
section
variable{c:Cfg}{f F G h:ae->ae}{o0:MO}{M M' :ab ae}{e way:ae}{asc:aE}{p:ae×ae}
theorem Qb(hp:p∈bu)(w:way∈bh 3)(g:Good 295 228 [.a4 50,gk way (.bool asc)] (gN (Ie c F G p M e)) (.bool aq) (sEn c F G h M' e asc way p (L3 F G p way))):
  Good 295 228 [.a4 56,gk way (.bool asc)] (Gg c f F G p o0 M way e) (.bool aq) (FF c f F G h p o0 (xp e) [] M' (DR way) e (nP p) way []):=by
 have l:eP (Ie c F G p M e)=62:=⋯;refine kR (lab:=zI way) (ks:=[70]) (ups:=Zt c M' (DR way)) (nw:=nwB h (nP p)) (cN (k:=λι=>bh 3) (Qa c f F G o0 M e asc) hp w) (t0:=Ge (Ie c F G p M e)) (⋯) g (v:=.bool aq) ?_ (cN (k:=λι=>bh 3) (UW c f F G h o0 M M' e asc) hp w);rw[l];exact cN (k:=λι=>bh 3) (abV c F G h M M' e asc) hp w
end
def hW(asc:aE)(F G:ae->ae)(p:ae×ae):ae->ae:=f' (iy asc (bC F p.1++bC G p.2))
def mW(way:ae)(F G:ae->ae)(p:ae×ae):ae->ae:=cS (au way 0) (fZ m0 0 F p.1) (oP m0 F G p)
def MW(c:Cfg)(way:ae)(asc:aE)(F G:ae->ae)(p:ae×ae):ae->ae:=mG c (joinM (mW way F G p) (t0 c.w)) (hW asc F G p) (nP p)
theorem Ig(X H:ae->ae):(fL.map λc=>(kq c).map λn=>(wH c.w (mG c (joinM X (t0 c.w)) H n),Dm c.w (mG c (joinM X (t0 c.w)) H n)))=fL.map λc=>(kq c).map λn=>(BL c.k c.w n,stB c.s):=⋯
section
variable{c:Cfg}{F G:ae->ae}{e:ae}{asc:aE}{p:ae×ae}
theorem wI(a:c∈fL):ni c=hU m0 (t7 (t0 c.w) c.w):=(rV (kU a) m0 (t0 c.w)).symm
theorem Zu(ok:dH 129 lR)(hf:∀n,aC F n=aC (lQ ro) n)(b:c∈fL)(d:n∈kq c)(a:n<13):Good 295 228 [.a4 50,gk 0 (.bool asc)] (gN (Ie c F G (n,0) (ni c) e)) (.bool aq) (sEn c F G (hW asc F G (n,0)) (jK (MW c 0 asc F G (n,0)) (aM 15 c.w)) e asc 0 (n,0) (L3 F G (n,0) 0)):=by
 have g:=LQ c 0 n asc (aC G 0) (xp e) m0 (t0 c.w) F ok (hf n) b d a;rw[<-wI b]at g;have e:eE asc F n=hW asc F G (n,0):=by
  unfold eE hW;rw[show bC G (n,0).2=[] from rfl,dj]
 rw[e]at g;exact g
theorem Zv(ok:dH 129 lR)(hf:iI F G p=aC (lQ ro) (nP p))(b:c∈fL)(hp:p∈bu)(n:nP p∈kq c)(a:nP p<13):Good 295 228 [.a4 50,gk 1 (.bool asc)] (gN (Ie c F G p (ni c) e)) (.bool aq) (sEn c F G (hW asc F G p) (jK (MW c 1 asc F G p) (aM 15 c.w)) e asc 1 p (L3 F G p 1)):=by
 have g:=LR c 0 asc (xp e) m0 (t0 c.w) F G p ok hf b hp n a;rw[<-wI b]at g;have e:eE asc (mJ F G p) (nP p)=hW asc F G p:=by
  unfold eE hW nP;rw[(q9 F G p).2]
 rw[e,show aC (mJ F G p) (nP p)=iI F G p from(q9 F G p).1.symm]at g
 exact g
theorem Zw(ok:dH 129 lR)(a:c∈fL)(hp:p∈bu)(n:nP p∈kq c)(m:g6 asc (bC F p.1) (bC G p.2)=iy asc (bC F p.1++bC G p.2)):Good 295 228 [.a4 50,gk 2 (.bool asc)] (gN (Ie c F G p (ni c) e)) (.bool aq) (sEn c F G (hW asc F G p) (jK (MW c 2 asc F G p) (aM 15 c.w)) e asc 2 p (L3 F G p 2)):=by
 have g:=LS c 0 asc (xp e) m0 (t0 c.w) F G p ok a hp n;rw[<-wI a]at g;have e:zA asc F G p=hW asc F G p:=by
  unfold zA hW;rw[m]
 rw[e]at g;exact g
end
theorem BI.more(g:BI n j as σ)(l:n<=m):BI m j as σ:=λG H us k r S A fs R b a d q=>g G H us k r S A fs (R.less l) b a d q
theorem Ih{ds:ab (ab ae×V)}{sts:ab St}{tg:V->ab ae}{ts:ab (ab ae)}{d:ab ae×V}(v:(ds.map λd=>tg d.2)=ts)(z:ts.Nodup)(A:∀o,la (bg (jM 215 o) 16) (bT 228).sc (i5 iw) (qz w s) k=aa (.kx L 0,zF sts 0))(H:sts.length=m+1)(C:(sts.map λσ=>σ.t.get L)=sts.map λι=>aa (.list (cu (ds.map qa))))(hG:∀i d,i<m->ds[i]? =aa d->Good 258 215 [w,d.2] (zF sts i) (.str []) (zF sts (i+1)))(D:ds[m]? =aa d)(hT:mv 250 215 [w,d.2] (zF sts m)):BI (258+2*16+1) 228 [w,s] k:=by
 have tk:∀i a,(ds.take m)[i]? =aa a->i<m/\ds[i]? =aa a:=λi a e=>by
  rw[MU]at e
  split at e
  ·exact⟨by assumption,e⟩
  ·exact b6 e
 have ok:dH 258 λj as=>cS (au j 215) (oE w ((ds.take m).map (·.2)) (zF sts) as) bW:=Wx λi d h=>by
  rw[cL]at h
  induction q:(ds.take m)[i]? with
  |none=>rw[q]at h;exact b6 h|some a=>rw[q]at h;cases h;exact hG i a (tk i a q).1 (tk i a q).2
 have l:((ds.take m).map (·.2)).Nodup:=by
  have e:(ds.map (·.2)).Nodup:=by
   subst v;refine(et.mp ?_:ab.Pairwise (λx y=>tg x≠tg y) (ds.map (·.2))).imp λh e=>h (aY tg e);rw[fz];exact z
  exact e.sublist (DT _ (ab.take_sublist _ _))
 have e:=FA (o:=oE w ((ds.take m).map (·.2)) (zF sts)) (A _) (λi u=>by
  have r:i<sts.length:=by lia
  have e:zF sts i=sts[i]:=by unfold zF;rw[cx,az r];rfl
  rw[e];exact a5 C (lW _)) (λi d u E=>⟨_,Ww l (by rw[cL,MU,bc u,E];rfl)⟩) D
 unfold jM at e;exact YK (n:=258) (b:=258) (N:=16) ⟨aF _,by decide⟩ ok e (by decide) hT
section
variable{c:Cfg}{n he:ae}{asc:aE}{one two old:V}{goal:MO}{m t f g h:ae->ae}{p:ae×ae}
theorem m5(hb:(c,n)∈qs):c∈fL:=by
 obtain⟨b,a,h⟩:=b7.mp hb;obtain⟨_,_,h⟩:=bF.mp h
 cases h;exact a
theorem Zx{asc:V}(hb:(c,n)∈qs){way:ae}(a:way∈bh 3):mv 250 215 [.a4 50,i7] (s3 he one two asc old goal m h way c n):=by
 have ok:=u7 (kU (m5 hb));have e1:=cN (k:=λι=>bh 3) (abM he one two asc old goal m h) hb a;have e2:=cN (k:=λι=>bh 3) (abN he one two asc old goal m h) hb a;have e2:isS (u' (T1 c.w) (bg (T1 c.w) 58) Ux (s3 he one two asc old goal m h way c n))=aq:=e2
 induction z:u' (T1 c.w) (bg (T1 c.w) 58) Ux (s3 he one two asc old goal m h way c n) with
 |none=>rw[z]at e2;exact fT e2|some x=>exact YI (n:=129) (b:=129) (N:=60) ⟨aF _,by decide⟩ ok e1 (n' :=247) (by decide) (YG (n:=129) (b:=129) (N:=58) ⟨aF _,by decide⟩ ok z)
theorem adN(ok:dH 129 lR){ro:ae->ae}(hf:aC f n=aC (lQ ro) n)(hb:(c,n)∈qs)(b:n<13):BI 291 228 [.a4 50,gk 0 (.bool asc)] (LO c he goal (aC f n) two (hU m (t7 t c.w))):=by
 refine BI.more (n:=258+2*16+1) (Ih (ds:=wy 0 (.bool asc)) (L:=66) (m:=3) (d:=(wx,i7)) (tg:=iX) (ts:=[iX jz,iX (iH 0 .none),iX (kh .none),iX i7,iX tM]) (sts:=PI c n asc two goal m t f he) (⋯) (by decide) ?_ rfl (⋯) (PJ c he n asc two goal m t f ok hf b) (⋯) ?_) (by decide)
 ·exactλo=>Py c.a c.key c.st c.w he (hU m (t7 t c.w)) (aC f n) two (.bool asc) goal o
 ·rw[WE c he n asc two goal m t f (kU (m5 hb))]
  exact Zx hb ax
theorem adO(ok:dH 129 lR){ro:ae->ae}(hf:iI f g p=aC (lQ ro) (nP p))(hb:(c,nP p)∈qs)(hp:p∈bu)(b:nP p<13):BI 291 228 [.a4 50,gk 1 (.bool asc)] (LO c he goal (aC f p.1) (aC g p.2) (hU m (t7 t c.w))):=by
 refine BI.more (n:=258+2*16+1) (Ih (ds:=wy 1 (.bool asc)) (L:=66) (m:=3) (d:=(wx,i7)) (tg:=iX) (ts:=[iX jz,iX (iH 0 .none),iX (kh .none),iX i7,iX tM]) (sts:=PL c he asc goal m t f g p) (⋯) (by decide) ?_ rfl (⋯) (PM c he asc goal m t f g p ok hf hp b) (⋯) ?_) (by decide)
 ·exactλo=>Pz c.a c.key c.st c.w he (hU m (t7 t c.w)) (aC f p.1) (aC g p.2) (.bool asc) goal o
 ·rw[WG c he asc goal m t f g p (kU (m5 hb))]
  exact Zx hb (aK _ ax)
theorem adP(ok:dH 129 lR)(hb:(c,nP p)∈qs)(hp:p∈bu):BI 291 228 [.a4 50,gk 2 (.bool asc)] (LO c he goal (aC f p.1) (aC g p.2) (hU m (t7 t c.w))):=by
 refine BI.more (n:=258+2*16+1) (Ih (ds:=wy 2 (.bool asc)) (L:=66) (m:=2) (d:=(wx,i7)) (tg:=iX) (ts:=[iX jz,iX (iH 2 .none),iX i7,iX tM]) (sts:=PN c he asc goal m t f g p) (⋯) (by decide) ?_ rfl (⋯) (PO c he asc goal m t f g p ok hp) (⋯) ?_) (by decide)
 ·exactλo=>PA c.a c.key c.st c.w he (hU m (t7 t c.w)) (aC f p.1) (aC g p.2) (.bool asc) goal o
 ·rw[WH c he asc goal m t f g p (kU (m5 hb))]
  exact Zx hb (aK _ (aK _ ax))
end
section
variable{c:Cfg}{f F G:ae->ae}{o0:MO}{e way:ae}{asc:aE}{p:ae×ae}
theorem L4:((bh 3).map λway=>(dG (zI way) aq (λι r=>r7 (bH 0) r),Aj (zI way)))=(bh 3).map λι=>(aq,aq):=⋯
theorem UX(hp:p∈bu)(w:way∈bh 3)(g:BI 291 228 [.a4 50,gk way (.bool asc)] (gN (Ie c F G p M e))):BI 291 228 [.a4 56,gk way (.bool asc)] (Gg c f F G p o0 M way e):=by
 have l:=av (a5 L4 w);exact LF l.1 l.2 (cN (k:=λι=>bh 3) (Qa c f F G o0 M e asc) hp w) (t0:=Ge (Ie c F G p M e)) (⋯) g
theorem UY(ok:dH 129 lR)(hf:aC F n=aC (lQ ro) n)(hb:(c,n)∈qs)(a:n<13):BI 291 228 [.a4 50,gk 0 (.bool asc)] (gN (Ie c F G (n,0) (ni c) e)):=by
 have g:=adN (c:=c) (he:=0) (asc:=asc) (two:=aC G 0) (goal:=xp e) (m:=m0) (t:=t0 c.w) ok hf hb a;rw[<-wI (m5 hb)]at g;exact g
theorem UZ(ok:dH 129 lR)(hf:iI F G p=aC (lQ ro) (nP p))(hb:(c,nP p)∈qs)(hp:p∈bu)(a:nP p<13):BI 291 228 [.a4 50,gk 1 (.bool asc)] (gN (Ie c F G p (ni c) e)):=by
 have g:=adO (c:=c) (he:=0) (asc:=asc) (goal:=xp e) (m:=m0) (t:=t0 c.w) ok hf hb hp a;rw[<-wI (m5 hb)]at g;exact g
theorem U0(ok:dH 129 lR)(hb:(c,nP p)∈qs)(hp:p∈bu):BI 291 228 [.a4 50,gk 2 (.bool asc)] (gN (Ie c F G p (ni c) e)):=by
 have g:=adP (c:=c) (he:=0) (asc:=asc) (goal:=xp e) (m:=m0) (t:=t0 c.w) (f:=F) (g:=G) ok hb hp;rw[<-wI (m5 hb)]at g;exact g
end
def m6(xs:ab (ab ae))(acc:V):V:=@cg (ab ae) (λι=>V->V) (λa=>a) (λx ι i a=>i (.cons (.eN x) a)) xs acc
theorem BR(a b:ab (ab ae)):∀acc,m6 (a++b) acc=m6 b (m6 a acc):=by
 induction a with
 |nil=>intro acc;rfl|cons x r i=>intro acc;exact i _
theorem wJ(a:ab (ab ae)):∀acc,il (m6 a acc)=a.length+il acc:=by
 induction a with
 |nil=>intro acc;exact(dY _).symm|cons x r i=>
  intro acc;refine(i (.cons (.eN x) acc)).trans ?_;show r.length+(il acc+1)=r.length+1+il acc;exact Eq.symm (hD r.length (il acc))
theorem BS(a:ab (ab ae)):∀acc t,lX (m6 a acc) t=lX acc (tc (dq a) t):=by
 induction a with
 |nil=>intro acc t;rfl|cons x r i=>intro acc t;exact i (.cons (.eN x) acc) t
theorem FL(a:ab (ab ae)):tc (dq a) .nil=dq a:=by
 induction a with
 |nil=>rfl|cons x r i=>exact aY (V.cons (.eN x)) i
theorem Qc(a:ab (ab ae)):il (dq a)=a.length:=by
 induction a with
 |nil=>rfl|cons x r i=>exact aY ar i
def dP(l:ab (ab ae))(c:ae):ab (ab ae):=l.filter λr=>au (dK r) c
def mc:aQ:=i5 (iM ((bT 227).body.drop 1))
set_option backward.match.sparseCases false in
noncomputable def adQ:aQ->bX
 |.ListComp e l a b=>dG (l.drop (l.length - 1)) ⟨e,e,[],0⟩ λg ι=>g|e=>⟨e,e,[],0⟩
def FN:bX:=adQ mc
def m7(asc:aE)(L:V):aX:=[(nm "rows",.a4 0),(nm "is_ascending",.bool asc),(nm "letters",L)]
def ve(asc:aE)(L:V)(c:ae):aX:=m7 asc L++[(nm "letter",.int (.ofNat c))]
def kB(asc:aE)(L:V)(c:ae)(v:V):aX:=ve asc L c++[(nm "row",v)]
def ki(rs:ab (ab ae)):St:=⟨.node (.list (dq rs)) .nil .nil,1⟩
def Dn:aX->V->Rm (aX×V):=kK (bg T0 18) (f5 mc) (ku mc) []
section
variable(asc:aE)(L:V)(c d:ae)(v:V)(σ:St)(x0 x1 x2:ae)(j:ae)
theorem U1:d9 [nm "row"] (.kx 0 j) v (ve asc L c)=aa (kB asc L c v):=⋯
theorem U2(u:V):d9 [nm "row"] (.kx 0 j) v (kB asc L c u)=aa (kB asc L c v):=⋯
theorem adR:th (bg T0 18) (f5 mc) (kB asc L c (.eN [x0,x1,x2])) FN.ifs σ=aa (au (bz x0 256) c,σ):=by
 rw[(⋯:th (bg T0 18) (f5 mc) (kB asc L c (.eN [x0,x1,x2])) FN.ifs σ=b8 (λσ=>aa (au (bz x0 256) c,σ)) (λt=>cS t (rt aq) (rt ai)) σ)];rcases au (bz x0 256) c<;>rfl
theorem abW(acc:V):Dn (kB asc L c v) acc σ=eB (r5 acc) (rt (kB asc L c v,V.cons v acc)) σ:=⋯
end
theorem adS(h:r.length=3):∃a b c,r=[a,b,c]:=⟨_,_,_,vw r h⟩
section
variable{asc:aE}{L:V}{c:ae}{rs:ab (ab ae)}
theorem Zy(s:∀r∈rs,r.length=3):∀(k m i:ae)(re:aX)(acc:V),k<m->i+k=rs.length->(re=ve asc L c\/∃u,re=kB asc L c u)->il acc+k<=100->
  ∃e,(e=ve asc L c\/∃u,e=kB asc L c u)/\gx (bg T0 18) (f5 mc) [nm "row"] FN.ifs Dn m (.kx 0 i) re acc (ki rs)=aa ((e,m6 (dP (rs.drop i) c) acc),ki rs):=by
 have g:(ki rs).t.get 0=aa (.list (cu (rs.map V.eN))):=rfl;intro k
 induction k with
 |zero=>
  intro m i re acc b l h _
  induction m with
  |zero=>lia|succ m=>
   refine⟨re,h,?_⟩;rw[(ig (iz (id (Eq.symm l))):rs.drop i=[]),vd (by rw[lP g,ie,c_ (by simp;lia)];rfl)];rfl
 |succ k n=>
  intro m i re acc b l h w
  induction m with
  |zero=>lia|succ m=>
   have a:i<rs.length:=by lia
   obtain⟨x0,x1,x2,x⟩:=adS (s _ (lW a));have o:fP (ki rs) (.kx 0 i)=aa (aa (.eN [x0,x1,x2],.kx 0 (ar i))):=by
    simp only[lP g,ie,cL,az a,x];rfl
   have p:d9 [nm "row"] (.kx 0 (ar i)) (.eN [x0,x1,x2]) re=aa (kB asc L c (.eN [x0,x1,x2])):=by
    rcases h with rfl|⟨u,rfl⟩
    ·exact U1 ..
    ·exact U2 ..
   have t1:=adR asc L c (ki rs) x0 x1 x2;have y:dP (rs.drop i) c=cS (au (bz x0 256) c) ([x0,x1,x2]::dP (rs.drop (i+1)) c) (dP (rs.drop (i+1)) c):=by
    rw[(by rw[jo a,x]:rs.drop i=[x0,x1,x2]::rs.drop (i+1))]
    unfold dP;rw[R_,show dK [x0,x1,x2]=bz x0 256 from rfl]
    rcases au (bz x0 256) c<;>rfl
   refine y▸?_
   induction hb:au (bz x0 256) c with
   |true=>
    rw[hb]at t1;have f:Dn (kB asc L c (.eN [x0,x1,x2])) acc (ki rs)=aa ((kB asc L c (.eN [x0,x1,x2]),V.cons (.eN [x0,x1,x2]) acc),ki rs):=by
     rw[abW];have:r5 acc=aq:=cz (by lia)
     refine this▸?_;rfl
    obtain⟨e,q,z⟩:=n m (i+1) (kB asc L c (.eN [x0,x1,x2])) (V.cons (.eN [x0,x1,x2]) acc) (je.mp b) (by lia) (.inr ⟨_,rfl⟩) (by show il acc+1+k<=100;lia)
    exact⟨e,q,(kV o p t1 f).trans z⟩
   |false=>
    replace t1:=hb▸t1
    obtain⟨e,q,z⟩:=n m (i+1) (kB asc L c (.eN [x0,x1,x2])) acc (by lia) (by lia) (.inr ⟨_,rfl⟩) (eW w)
    exact⟨e,q,(L0 o p t1).trans z⟩
end
def zJ:aX->V->Rm (aX×V):=kK (bg T0 18) (f5 mc) (ku mc) [FN]
section
variable{asc:aE}{L:V}{rs:ab (ab ae)}
theorem zK(a:∀r∈rs,r.length=3)(si:rs.length<=12)(c:ae)(re:aX)(h:re=ve asc L c\/∃u,re=kB asc L c u)(acc:V)(l:il acc<=40):
  ∃e,(e=ve asc L c\/∃u,e=kB asc L c u)/\zJ re acc (ki rs)=aa ((e,m6 (dP rs c) acc),ki rs):=by
 obtain⟨e,q,z⟩:=Zy a rs.length 90 0 re acc (by lia) (dY rs.length) h (by lia)
 refine⟨e,q,?_⟩;have b:la (bg T0 18) (f5 mc) FN.iter re (ki rs)=aa (.kx 0 0,ki rs):=by
  rcases h with rfl|⟨u,rfl⟩<;>kernel_rfl
 rw[(⋯:zJ re acc (ki rs)=b8 (la (bg T0 18) (f5 mc) FN.iter re) (λi=>gx (bg T0 18) (f5 mc) [nm "row"] FN.ifs Dn hM i re acc) (ki rs)),cw b,(⋯:hM=90),z];rfl
end
noncomputable def l3V(a b d:ae):V:=.cons (.int (.ofNat a)) (.cons (.int (.ofNat b)) (.cons (.int (.ofNat d)) .nil))
def J0(asc:aE):V:=.tup (cS asc (l3V 65 66 67) (l3V 67 66 65))
def nA(rs:ab (ab ae))(asc:aE):ab (ab ae):=cS asc (dP rs 65++(dP rs 66++dP rs 67)) (dP rs 67++(dP rs 66++dP rs 65))
def Qd(rs:ab (ab ae))(asc:aE):St:=⟨.node (.list (dq rs)) (.node (.list (dq (nA rs asc))) .nil .nil) .nil,2⟩
section
variable{asc:aE}{L:V}{rs:ab (ab ae)}
theorem vf(rs:ab (ab ae))(c:ae):(dP rs c).length<=rs.length:=ab.length_filter_le _ _
theorem J1(c d:ae)(re:aX)(i:It)(a:∃l,i=.fix l)(h:re=ve asc L c\/∃u,re=kB asc L c u):∃r,(r=ve asc L d\/∃u,r=kB asc L d u)/\d9 [nm "letter"] i (.int (.ofNat d)) re=aa r:=by
 obtain⟨l,rfl⟩:=a;rcases h with rfl|⟨u,rfl⟩
 ·exact⟨_,.inl rfl,⋯⟩
 ·exact⟨_,.inr ⟨u,rfl⟩,⋯⟩
theorem wK(v l:V)(σ:St):fP σ (.fix (.cons v l))=aa (aa (v,.fix l))/\fP σ (.fix .nil)=aa aw:=⟨⋯,⋯⟩
def Ii(s:aE)(c:V)(e:ab (ab ae))(a:ae)(b:ae)(d:ae):Prop:=∀(h:∀r∈e,r.length=3)(si:e.length<=12),∃f,gx (bg T0 18) (f5 mc) [nm "letter"] [] zJ 90 (.fix (l3V a b d)) (m7 s c) .nil (ki e)=aa ((f,m6 (dP e a++(dP e b++dP e d)) .nil),ki e)
def Qe:=λx:(_×_×_)×_×_×_=>Ii x.1.1 x.1.2.1 x.1.2.2 x.2.1 x.2.2.1 x.2.2.2
def wL:=haveI:=neV;qy bB Qe
namespace Qf
def s:=wL.1.1
def c:=wL.1.2.1
def e:=wL.1.2.2
def a:=wL.2.1
def b:=wL.2.2.1
def d:=wL.2.2.2
theorem ok:Ii s c e a b d:=by
 intro h si;have f:d9 [nm "letter"] (.fix (.cons (.int (.ofNat b)) (.cons (.int (.ofNat d)) .nil))) (.int (.ofNat a)) (m7 s c)=aa (ve s c a):=⋯;have t:=vf e a;have u:=vf e b;obtain⟨r,q,z1⟩:=zK (asc:=s) (L:=c) h si a _ (.inl rfl) .nil (bj _);obtain⟨g,i,y⟩:=J1 a b r (.fix (.cons (.int (.ofNat d)) .nil)) ⟨_,rfl⟩ q;have z:il V.nil=0:=rfl;obtain⟨j,k,z3⟩:=zK (asc:=s) (L:=c) h si b g i (m6 (dP e a) .nil) (by rw[wJ];lia)
 obtain⟨l,n,o⟩:=J1 b d j (.fix .nil) ⟨_,rfl⟩ k;obtain⟨p,v,z5⟩:=zK (asc:=s) (L:=c) h si d l n (m6 (dP e b) (m6 (dP e a) .nil)) (by rw[wJ,wJ];lia)
 refine⟨p,?_⟩;rw[BR,BR];exact(kV (m:=89) (wK _ _ _).1 f rfl z1).trans ((kV (m:=88) (wK _ _ _).1 y rfl z3).trans ((kV (m:=87) (wK _ _ _).1 o rfl z5).trans (vd (m:=86) (wK .nil .nil _).2)))
end Qf
theorem abX{asc:aE}{L:V}{rs:ab (ab ae)}(a:ae)(b:ae)(d:ae):Ii asc L rs a b d:=@d5 _ _ Qe @Qf.ok ((asc,L,rs),a,b,d)
theorem Zz(c:∀r∈rs,r.length=3)(si:rs.length<=12):d' T0 (bg T0 20) 227 [.a4 0,.bool asc] (ki rs)=aa (.a4 1,Qd rs asc):=by
 have hb:(bT 227).body=[iM (bT 227).body,iM ((bT 227).body.drop 1)]:=⋯;have s:(iq (bT 227).sc (iM (bT 227).body)).f T0 (bg T0 19) [(nm "rows",.a4 0),(nm "is_ascending",.bool asc)] (ki rs)=aa ((.next,m7 asc (J0 asc)),ki rs):=by cases asc<;>kernel_rfl
 have e:∃a b d,J0 asc=.tup (l3V a b d)/\nA rs asc=dP rs a++(dP rs b++dP rs d):=by
  cases asc
  ·exact⟨67,66,65,rfl,rfl⟩
  ·exact⟨65,66,67,rfl,rfl⟩
 obtain⟨a,b,d,g,h⟩:=e;obtain⟨j,z⟩:=abX (asc:=asc) (L:=J0 asc) a b d c si;have i1:la (bg T0 18) (bT 227).sc (wD mc) (m7 asc (J0 asc)) (ki rs)=aa (.fix (l3V a b d),ki rs):=by rw[g];kernel_rfl
 have E:qk (bT 227).sc mc=⟨λι r re=>b8 (la r (bT 227).sc (wD mc) re) λi=>b8 (gx r (f5 mc) [nm "letter"] [] (kK r (f5 mc) (ku mc) [FN]) hM i (jj [nm "letter",nm "row"] re) .nil) λp=>qj (lX p.2 .nil)⟩:=⋯;have R:iq (bT 227).sc (iM ((bT 227).body.drop 1))=⟨λι r re=>b8 (r.ev (bT 227).sc mc re) λv=>rt (.ret v,re)⟩:=⋯;have w:jj [nm "letter",nm "row"] (m7 asc (J0 asc))=m7 asc (J0 asc):=⋯;have n:hM=90:=⋯;have m:qj (lX (m6 (dP rs a++(dP rs b++dP rs d)) .nil) .nil) (ki rs)=aa (.a4 1,Qd rs asc):=by
  rw[BS,FL,<-h];have:r5 (lX .nil (dq (nA rs asc)))=aq:=by
   show cf (il (dq (nA rs asc))) 4096=aq;rw[Qc,h];have l:=vf rs a;have k:=vf rs b;have ld:=vf rs d;exact cz (by simp only[bV];exact bq (ae.add_le_add (bq l si) (ae.add_le_add (bq k si) (bq ld si))) (by decide))
  unfold qj;rw[this];kernel_rfl
 have he:(bg T0 19).ev (bT 227).sc mc (m7 asc (J0 asc)) (ki rs)=aa (.a4 1,Qd rs asc):=by
  show(qk (bT 227).sc mc).f T0 (bg T0 18) (m7 asc (J0 asc)) (ki rs)=_;rw[E];show b8 (la (bg T0 18) (bT 227).sc (wD mc) (m7 asc (J0 asc))) (λi=>b8 (gx (bg T0 18) (f5 mc) [nm "letter"] [] zJ hM i (jj [nm "letter",nm "row"] (m7 asc (J0 asc))) .nil) λp=>qj (lX p.2 .nil)) (ki rs)=_;rw[cw i1,w,n];show b8 (gx (bg T0 18) (f5 mc) [nm "letter"] [] zJ 90 (.fix (l3V a b d)) (m7 asc (J0 asc)) .nil) (λp=>qj (lX p.2 .nil)) (ki rs)=_;rw[cw z];exact m
 rw[jy (f:=bT 227) (re:=[(nm "rows",.a4 0),(nm "is_ascending",.bool asc)]) (⋯) (⋯) (⋯)];have o:(bg T0 20).ex (bT 227).sc (bT 227).body [(nm "rows",.a4 0),(nm "is_ascending",.bool asc)] (ki rs)=aa ((.ret (.a4 1),m7 asc (J0 asc)),Qd rs asc):=by
  rw[hb];show x3 T0 (bg T0 19) (bT 227).sc [iM (bT 227).body,iM ((bT 227).body.drop 1)] [(nm "rows",.a4 0),(nm "is_ascending",.bool asc)] (ki rs)=_;rw[gm s];refine mF ?_;rw[R];show b8 ((bg T0 19).ev (bT 227).sc mc (m7 asc (J0 asc))) (λv=>rt (Fl.ret v,m7 asc (J0 asc))) (ki rs)=_;rw[cw he];rfl
 rw[cw o];rfl
end
theorem L5(h:fP σ i=aa (aa (v,j)))(a:d9 xs j v re=aa re1)(b:r.ex sc body re1 σ=aa ((.ret u,e),σ1)):
  h6 r sc xs body (m+1) i re σ=aa ((.ret u,e),σ1):=by
 show Aa i (rt (.next,re)) (λv j=>opt (d9 xs j v re) λre1=>b8 (r.ex sc body re1) λp=>gP p (h6 r sc xs body m j)) σ=_;unfold Aa;rw[h];show opt (d9 xs j v re) _ σ=_;rw[a];exact cw (f:=λp=>gP p (h6 r sc xs body m j)) b
section
variable(asc:aE)(x0 x1 x2 y0 y1 y2:ae)
def md(asc:aE)(x y:ae):aE:=cS (au (bz x 256) (bz y 256)) ai (Gy (bH (bz x 256) (bz y 256)) asc)
theorem L6(x y:ae):md asc x y=gy asc (bz x 256) (bz y 256):=by
 unfold md gy;generalize bz x 256=a;generalize bz y 256=b;have e1:au a b=decide (a=b):=by
  induction h:au a b with
  |true=>exact(cc (ay h)).symm|false=>exact(bw (ae.ne_of_beq_eq_false h)).symm
 have e2:∀a b,bH a b=decide (a<b):=λa b=>by
  induction h:bH a b with
  |true=>exact(cc (bx h)).symm|false=>exact(bw (λl=>by have:=cz l;exact fT (h.symm.trans this))).symm
 rw[e1,e2,e2];rcases xW a b with h|h|h
 ·rw[bw (show ¬a=b by lia),cc h,bw (show ¬b<a by lia)]
  cases asc<;>rfl
 ·rw[cc h,bw (show ¬a<b by lia),bw (show ¬b<a by lia)]
  cases asc<;>rfl
 ·rw[bw (show ¬a=b by lia),bw (show ¬a<b by lia),cc h]
  cases asc<;>rfl
theorem ZA:d' T0 (bg T0 13) 197 [.eN [x0,x1,x2],.eN [y0,y1,y2],.a4 0] (sK asc)=aa (.bool (md asc x0 y0),sK asc):=by
 have hb:(bT 197).body=[tP,iM ((bT 197).body.drop 1)]:=⋯;have A:iq (bT 197).sc tP=⟨λι r re=>b8 (la r (bT 197).sc (i5 tP) re) λi=>h6 r (bT 197).sc [enc (aL "key")] FH hM i re⟩:=⋯;have c:la (bg T0 12) (bT 197).sc (i5 tP) (ra [x0,x1,x2] [y0,y1,y2]) (sK asc)=aa (.kx 0 0,sK asc):=⋯;have x:∀l re σ,(bg T0 13).ex (bT 197).sc l re σ=x3 T0 (bg T0 12) (bT 197).sc l re σ:=λι ι ι=>⋯;have n:fP (sK asc) (.kx 0 0)=aa (aa (mI asc 1,.kx 0 1)):=⋯;have d:fP (sK asc) (.kx 0 1)=aa aw:=⋯;have k:d9 [enc (aL "key")] (.kx 0 1) (mI asc 1) (ra [x0,x1,x2] [y0,y1,y2])=aa (H7 asc [x0,x1,x2] [y0,y1,y2]):=⋯;have hf:∀q,h6 (bg T0 12) (bT 197).sc [enc (aL "key")] FH (88+1+1) (.kx 0 0) (ra [x0,x1,x2] [y0,y1,y2]) (sK asc)=q->(iq (bT 197).sc tP).f T0 (bg T0 12) (ra [x0,x1,x2] [y0,y1,y2]) (sK asc)=q:=λq h=>by
  rw[A];show b8 (la (bg T0 12) (bT 197).sc (i5 tP) (ra [x0,x1,x2] [y0,y1,y2])) (λi=>h6 (bg T0 12) (bT 197).sc [enc (aL "key")] FH hM i (ra [x0,x1,x2] [y0,y1,y2])) (sK asc)=_;rw[cw c];have e:hM=88+1+1:=⋯;rw[e];exact h
 have g:=Za asc x0 x1 x2 y0 y1 y2;rw[jy (T:=T0) (f:=bT 197) (re:=ra [x0,x1,x2] [y0,y1,y2]) (⋯) (⋯) (⋯)];unfold md
 induction h:au (bz x0 256) (bz y0 256) with
 |true=>
  rw[h]at g;have a:=hf _ ((pL (m:=88+1) n k g).trans (rS (m:=88) d));have b:(bg T0 13).ex (bT 197).sc (bT 197).body (ra [x0,x1,x2] [y0,y1,y2]) (sK asc)=aa ((.ret (.bool ai),oi asc [x0,x1,x2] [y0,y1,y2]),sK asc):=by
   rw[x,hb,gm a];exact mF (⋯)
  exact cw (f:=yo) b
 |false=>
  rw[h]at g;have a:=hf _ (L5 (m:=88+1) n k g);have b:(bg T0 13).ex (bT 197).sc (bT 197).body (ra [x0,x1,x2] [y0,y1,y2]) (sK asc)=aa ((.ret (.bool (Gy (bH (bz x0 256) (bz y0 256)) asc)),oi asc [x0,x1,x2] [y0,y1,y2]),sK asc):=by
   rw[x,hb];exact mF a
  exact cw (f:=yo) b
end
section
variable{asc:aE}{x0 x1 x2 y0 y1 y2 K q:ae}{σ:St}
theorem J2(n:ae):au n n=aq:=eL n
theorem abY(h:au K q=ai):dW [K,q] K=aa (.a4 0)/\dW [K,q] q=aa (.a4 1):=by
 constructor
 ·show@bl ae (λι=>ao V) (aa (.gH (bP 2 K))) (λj=>aa (.a4 j)) (cS (au K K) (aa 0) (ir (y8 [q] K) ar))=_
  rw[J2];rfl
 ·show@bl ae (λι=>ao V) (aa (.gH (bP 2 q))) (λj=>aa (.a4 j)) (cS (au K q) (aa 0) (ir (cS (au q q) (aa 0) (ir aw ar)) ar))=_
  rw[h,J2];rfl
theorem abZ(h:au K q=ai)(a:σ.t.get K=aa (.list (.cons (mI asc q) .nil)))(b:σ.t.get q=aa mH):i6 (mapM (dW [K,q]) eA) σ.t [K,q]=aa (muK asc):=by
 show@bl MO (λι=>ao (ab MO)) aw (λo=>dI (mapM (dW [K,q]) eA o) (@bl MO (λι=>ao (ab MO)) aw (λo=>dI (mapM (dW [K,q]) eA o) (aa []) cQ) (σ.t.get q)) cQ) (σ.t.get K)=_;rw[a,b];show dI (ir (dI (ir (dI (aa (.bool asc)) (dI (aa (.int 0)) (dI (dW [K,q] q) (aa .nil) .cons) .cons) .cons) .tup) (aa .nil) .cons) MO.list) (dI (mapM (dW [K,q]) eA mH) (aa []) cQ) cQ=_;have s:mapM (dW [K,q]) eA mH=aa mH:=⋯;rw[(abY h).2,s];rfl
theorem Ij(h:au K q=ai)(a:bH 0 q=aq)(c:σ.t.get K=aa (.list (.cons (mI asc q) .nil)))(d:σ.t.get q=aa mH):Good 35 197 [.eN [x0,x1,x2],.eN [y0,y1,y2],.a4 K] σ (.bool (md asc x0 y0)) σ:=by
 have e1:dI (qp (cT (dW [K,q]) eA) [.eN [x0,x1,x2],.eN [y0,y1,y2],.a4 K]) (i6 (mapM (dW [K,q]) eA) σ.t [K,q]) dE=aa ([.eN [x0,x1,x2],.eN [y0,y1,y2],.a4 0],muK asc):=by
  rw[abZ h c d];show dI (dI (aa (.eN [x0,x1,x2])) (dI (aa (.eN [y0,y1,y2])) (dI (dW [K,q] K) (aa []) cQ) cQ) cQ) (aa (muK asc)) dE=_;rw[(abY h).1];rfl
 have e:=kc (n:=0) (b:=8) (N:=13) ⟨bj _,aF _⟩ eQ (ZA asc x0 x1 x2 y0 y1 y2);refine kR (lab:=[K,q]) (ups:=[]) (nw:=[]) (ks:=[]) e1 (t0:=Ge (muK asc)) (⋯) e (v:=.bool (md asc x0 y0)) (⋯) ?_;unfold j_;have f:Aj [K,q]=aq:=by
  show cS (cS (dU (au K q)) aq ai) aq ai=aq;rw[h];rfl
 have hb:(dG [K,q] aq λι r=>r7 (bH 0) r)=aq:=by
  show cS (bH 0 q) aq ai=aq;rw[a];rfl
 rw[f,hb,e1];rfl
end
section
variable{α β:Type}{σ:St}{p:α×St}{v:V}
theorem J3{f:ab ae->Rm α}(h:fB v f σ=aa p):∃l,v=.eN l/\f l σ=aa p:=by induction v with
 |eN l=>exact⟨l,rfl,h⟩|_=>exact b6 h
theorem Qg{f:aE->Rm α}(h:vC v f σ=aa p):∃l,v=.bool l/\f l σ=aa p:=by induction v with
 |bool l=>exact⟨l,rfl,h⟩|_=>exact b6 h
theorem J4{f:ae->Rm α}(h:ei v f σ=aa p):∃l,v=.int (.ofNat l)/\f l σ=aa p:=by induction v with
 |int i=>induction i with
  |ofNat l=>exact⟨l,rfl,h⟩|negSucc l=>exact b6 h
 |_=>exact b6 h
theorem U3{f:V->Rm α}(h:mn v f σ=aa p):∃l,v=.tup l/\f l σ=aa p:=by induction v with
 |tup l=>exact⟨l,rfl,h⟩|_=>exact b6 h
theorem oS{f:V->V->Rm α}(h:pairD v bW f σ=aa p):∃a b,v=.cons a b/\f a b σ=aa p:=by induction v with
 |cons a b=>exact⟨a,b,rfl,h⟩|_=>exact b6 h
theorem hV{c:Rm α}(h:eB b c σ=aa p):b=aq/\c σ=aa p:=by induction b with
 |true=>exact⟨rfl,h⟩|false=>exact b6 h
theorem Dp{f:β->Rm α}(h:opt o f σ=aa p):∃b,o=aa b/\f b σ=aa p:=by induction o with
 |some b=>exact⟨b,rfl,h⟩|none=>exact b6 h
theorem U4{c:Rm α}(h:opt (isNil v) (λt=>eB t c) σ=aa p):v=.nil/\c σ=aa p:=by induction v with
 |nil=>exact⟨rfl,h⟩|_=>exact b6 h
theorem yc{f:ae->MO->Rm α}(h:jh v f σ=aa p):∃n o,v=.a4 n/\σ.t.get n=aa o/\f n o σ=aa p:=by induction v with
 |a4 n=>
  induction e:σ.t.get n with
  |none=>
   have h:@bl MO (λι=>ao (α×St)) aw (λo=>f n o σ) (σ.t.get n)=aa p:=h;rw[e]at h;exact b6 h
  |some o=>
   have h:@bl MO (λι=>ao (α×St)) aw (λo=>f n o σ) (σ.t.get n)=aa p:=h;rw[e]at h;exact⟨n,o,rfl,e,h⟩
 |_=>exact b6 h
theorem FO{f:ae->V->Rm α}(h:cb v f σ=aa p):∃n l,v=.a4 n/\σ.t.get n=aa (.list l)/\f n l σ=aa p:=by
 obtain⟨n,o,b,c,a⟩:=yc h
 induction o with
 |list l=>exact⟨n,l,b,c,a⟩|_=>exact b6 a
end
theorem zL{α:Type}{v:V}{c:Rm α}{σ:St}{p:α×St}(h:Uo v c σ=aa p):v=.nil/\c σ=aa p:=U4 h
theorem U5{α:Type}{g:aE->V->Rm α}{l:V}{σ:St}{p:α×St}(h:kxP g l σ=aa p):∃asc c,l=.cons (.tup (.cons (.bool asc) (.cons (.int 0) (.cons c .nil)))) .nil/\g asc c σ=aa p:=by
 obtain⟨e,r,e1,h⟩:=oS (v:=l) h;obtain⟨e2,h⟩:=zL (v:=r) h;obtain⟨t,e3,h⟩:=U3 (v:=e) h;obtain⟨a,u,e4,h⟩:=oS (v:=t) h;obtain⟨asc,e5,h⟩:=Qg (v:=a) h;obtain⟨b,v,e6,h⟩:=oS (v:=u) h;obtain⟨o,e7,h⟩:=J4 (v:=b) h;obtain⟨d,h⟩:=hV (b:=au o 0) h;obtain⟨c,w,e8,h⟩:=oS (v:=v) h;obtain⟨e9,h⟩:=zL (v:=w) h;exact⟨asc,c,by rw[e1,e2,e3,e4,e5,e6,e7,e8,e9,ay d];rfl,h⟩
structure ab0{α:Type}(k:V)(f:ae->ae->aE->Rm α)(σ:St)(p:α×St)(K q:ae)(asc:aE):Prop where
 eq:k=.a4 K
 keys:σ.t.get K=aa (.list (.cons (mI asc q) .nil))
 shape:σ.t.get q=aa mH
 ne:au K q=ai
 pos:bH 0 q=aq
 run:f K q asc σ=aa p
theorem vg{α:Type}{k:V}{f:ae->ae->aE->Rm α}{σ:St}{p:α×St}(h:va k f σ=aa p):∃K q asc,ab0 k f σ p K q asc:=by
 refine ck λa=>?_;obtain⟨K,l,rfl,d,h⟩:=FO h;obtain⟨asc,c,rfl,h⟩:=U5 h;obtain⟨q,o,rfl,e,h⟩:=yc (v:=c) h;obtain⟨he,h⟩:=hV (b:=HL [o] [mH]) h;obtain⟨g,h⟩:=hV (b:=dU (au K q)) h;obtain⟨i,h⟩:=hV (b:=bH 0 q) h;exact a ⟨K,q,asc,rfl,d,e.trans (aY aa (c7 (Dg he)).1),tv g,i,h⟩
def as3{α:Type}(x:ab ae)(f:ae->Rm α):Rm α:=dG x bW λa r=>dG r bW λι r=>dG r bW λι r=>dG r (f a) λι ι=>bW
theorem WL{α:Type}{x:ab ae}{f:ae->Rm α}{σ:St}{p:α×St}(h:as3 x f σ=aa p):∃a b c,x=[a,b,c]/\f a σ=aa p:=by
 rcases x with _|⟨a,_|⟨b,_|⟨c,_|_⟩⟩⟩
 any_goals exact b6 h
 exact⟨a,b,c,rfl,h⟩
def ab1(x y:ae)(_ _:ae)(asc:aE):Rm V:=rt (.bool (md asc x y))
def ab2(k:V)(x y:ab ae):Rm V:=as3 x λa=>as3 y λb=>va k (ab1 a b)
def ab3(as:ab V):Rm V:=Up as λa b k=>fB a λx=>fB b λy=>ab2 k x y
def WM(j:ae)(as:ab V):Rm V:=cS (au j 197) (ab3 as) bW
theorem FP{α:Type}{σ:St}{p:α×St}{as:ab V}{f:V->V->V->Rm α}(h:Up as f σ=aa p):∃a b c,as=[a,b,c]/\f a b c σ=aa p:=by
 rcases as with _|⟨a,_|⟨b,_|⟨c,_|_⟩⟩⟩
 any_goals exact b6 h
 exact⟨a,b,c,rfl,h⟩
theorem Qh:dH 35 WM:=λj as σ v τ e=>by
 replace e:cS (au j 197) (ab3 as) bW σ=aa (v,τ):=e
 induction h:au j 197 with
 |false=>rw[h]at e;exact b6 e|true=>
  rw[h]at e;obtain rfl:=ay h;clear h;refine ck λc=>?_;obtain⟨a,b,k,rfl,e⟩:=FP e;obtain⟨x,rfl,e⟩:=J3 (v:=a) e;obtain⟨y,rfl,e⟩:=J3 (v:=b) e;obtain⟨d,x1,f,rfl,e⟩:=WL (x:=x) e;obtain⟨g,i,l,rfl,e⟩:=WL (x:=y) e;obtain⟨K,q,asc,z⟩:=vg e;obtain rfl:=z.eq;obtain⟨rfl,rfl⟩:=av (af z.run);exact c (Ij z.ne z.pos z.keys z.shape)
def TG:Tab:=gh WM
def vh:cF:=iM ((bT 198).body.drop 1)
set_option backward.match.sparseCases false in
noncomputable def whB:cF->ab cF
 |.While a b c d=>b|_=>[]
def xq:cF:=iM (whB vh)
def Ik(asc:aE)(f g:ae->ae)(k0 k:ae):ab MO:=muK asc++[.list (aC f k0),.list (aC g k)]
structure Pt where
 k0:ae
 k1:ae
 at_:ae
 sp:ae
noncomputable def Pt.n(p:Pt):ae:=aM p.at_ p.sp
def BU(asc:aE)(f g h:ae->ae)(p:Pt):St:=gN (Ik asc f g p.k0 p.k1++[.list (aC h p.n)])
def reP(a s:ae):aX:=[(enc (aL "one"),.a4 2),(enc (aL "other"),.a4 3),(enc (aL "keys"),.a4 0),(enc (aL "found"),.a4 4),(enc (aL "at"),.int (.ofNat a)),(enc (aL "spot"),.int (.ofNat s))]
def Pt.re(p:Pt):aX:=reP p.at_ p.sp
def oj:ab (ae×ae):=(bh 13).flatMap λn=>(bh (ar n)).map λk=>(k,mw n k)
def AN:ab Pt:=oj.flatMap λp=>(bh p.1).flatMap λa=>(bh p.2).map λs=>⟨p.1,p.2,a,s⟩
def jJ(h:ae->ae)(n:ae)(g:ae->ae)(s:ae)(i:ae):ae:=cS (bH i (bP 3 n)) (h i) (g (aM (bP 3 s) (mw i (bP 3 n))))
noncomputable def Pt.ZC(p:Pt):Pt:=⟨p.k0,p.k1,p.at_,ar p.sp⟩
noncomputable def Pt.WN(p:Pt):Pt:=⟨p.k0,p.k1,ar p.at_,p.sp⟩
section
variable(asc:aE)(f g h:ae->ae)
theorem Qi:(AN.map λp=>(bg TG 12).tr (bT 198).sc (JU vh) p.re (BU asc f g h p))=AN.map λp=>aa (aq,BU asc f g h p):=⋯
theorem adT:(AN.map λp=>(bg TG 11).tr (bT 198).sc (JU xq) p.re (BU asc f g h p))=AN.map λp=>aa (md asc (g (bP 3 p.sp)) (f (bP 3 p.at_)),BU asc f g h p):=⋯
theorem ab4:(AN.map λp=>(bg TG 11).ex (bT 198).sc (Y' xq) p.re (BU asc f g h p))=AN.map λp=>aa ((.next,p.ZC.re),BU asc f g (jJ h p.n g p.sp) p.ZC):=⋯
theorem ab5:(AN.map λp=>(bg TG 11).ex (bT 198).sc (yg xq) p.re (BU asc f g h p))=AN.map λp=>aa ((.next,p.WN.re),BU asc f g (jJ h p.n f p.at_) p.WN):=⋯
end
section
variable{T:Tab}{r:Rec}{sc:Sc}{c:aQ}{body:ab cF}{m:ae}{re re1:aX}{σ σ1:St}
theorem FQ(h:r.tr sc c re σ=aa (aq,σ))(a:r.ex sc body re σ=aa ((.next,re1),σ1)):I5 r sc c body (m+1) re σ=I5 r sc c body m re1 σ1:=by
 show b8 (r.tr sc c re) (λt=>cS t (b8 (r.ex sc body re) λp=>gP p (I5 r sc c body m)) (rt (.next,re))) σ=_;rw[cw h];exact cw (f:=λp=>gP p (I5 r sc c body m)) a
theorem Dq(h:r.tr sc c re σ=aa (ai,σ)):I5 r sc c body (m+1) re σ=aa ((.next,re),σ):=by
 show b8 (r.tr sc c re) (λt=>cS t (b8 (r.ex sc body re) λp=>gP p (I5 r sc c body m)) (rt (.next,re))) σ=_;rw[cw h];rfl
end
theorem Qj(f:ae->ae):∀(n k i:ae),(vb f n k)[i]? =if i<n then aa (og f (k+i)) else aw:=by
 intro n
 induction n with
 |zero=>intro k i;show([]:ab (ab ae))[i]? =_;simp|succ n h=>
  intro k i;show(og f k::vb f n (ar k))[i]? =_
  induction i with
  |zero=>simp|succ i=>
   rw[hL,h];have:ar k+i=k+(i+1):=by rw[vq];exact hD k i
   rw[this];simp
theorem zM(f:ae->ae)(n i:ae):(bC f n)[i]? =if i<n then aa (og f i) else aw:=by
 have:=Qj f n 0 i;rw[dY]at this;exact this
theorem rX(asc:aE)(x y:ab ae)(r s:ab (ab ae)):g6 asc (x::r) (y::s)=cS (gy asc (dK y) (dK x)) (y::g6 asc (x::r) s) (x::g6 asc r (y::s)):=rfl
theorem kj(asc:aE)(xs:ab (ab ae)):g6 asc [] xs=xs/\g6 asc xs []=xs:=by cases xs<;>exact⟨rfl,rfl⟩
theorem pM(h:i<n):(bC f n).drop i=og f i::(bC f n).drop (i+1):=by
 have l:=(fK f n).1;rw[jo (by lia)]
 have e:=zM f n i;rw[bc h,az (by lia)]at e
 rw[af e]
theorem Qk{h:ae->ae}(l:i<3*n):jJ h n g s i=h i:=by
 unfold jJ;have:bH i (bP 3 n)=aq:=cz l;rw[this];rfl
theorem zN{g:ae->ae}:jJ h n g s (3*n+j)=g (3*s+j):=by
 unfold jJ;have:bH (3*n+j) (bP 3 n)=ai:=by
  induction e:bH (3*n+j) (bP 3 n) with
  |false=>rfl|true=>have:3*n+j<3*n:=bx e;lia
 rw[this];show g (3*s+(3*n+j - 3*n))=_;rw[hZ]
theorem zO(h g:ae->ae)(n s:ae):bC (jJ h n g s) (n+1)=bC h n++[og g s]:=by
 refine Rx λi=>?_;have a:=(fK h n).1;rw[zM];rcases xW i n with l|l|l
 ·rw[bc (ae.lt_add_right 1 l),ct (Ry l (id (Eq.symm a))),zM,bc l]
  have e:∀j,j<3->jJ h n g s (3*i+j)=h (3*i+j):=λj b=>Qk (bN (ae.add_lt_add_left b (3*i)) (aeg 3 l));show aa [jJ h n g s (3*i+0),jJ h n g s (3*i+1),jJ h n g s (3*i+2)]=aa [h (3*i+0),h (3*i+1),h (3*i+2)];rw[e 0 (ed 2),e 1 (ae.one_lt_succ_succ 1),e 2 (ae.lt_add_one 2)]
 ·subst l
  rw[bc (ae.lt_add_one i),d7 (iz a),a,IK];show aa [jJ h i g s (3*i+0),jJ h i g s (3*i+1),jJ h i g s (3*i+2)]=aa [g (3*s+0),g (3*s+1),g (3*s+2)];rw[zN,zN,zN]
 ·rw[aU (ae.not_lt.mpr l),c_]
  rw[bV,a];simp;exact ae.succ_le_of_lt l
def zP:ab Pt:=oj.flatMap λp=>((bh (ar p.2)).map λs=>(⟨p.1,p.2,p.1,s⟩:Pt))++((bh (ar p.1)).map λa=>(⟨p.1,p.2,a,p.2⟩:Pt))
def WO:cF:=iM ((bT 198).body.drop 2)
section
variable(asc:aE)(f g h:ae->ae)
def U6(p:Pt):V:=tc (tc (aC h p.n) (ud p.at_ (aC f p.k0))) (ud p.sp (aC g p.k1))
def stE(p:Pt):St:=gN (Ik asc f g p.k0 p.k1++[.list (aC h p.n),.list (ud p.at_ (aC f p.k0)),.list (tc (aC h p.n) (ud p.at_ (aC f p.k0))),.list (ud p.sp (aC g p.k1)),.list (U6 f g h p)])
theorem Ql:(zP.map λp=>(bg TG 12).tr (bT 198).sc (JU vh) p.re (BU asc f g h p))=zP.map λp=>aa (ai,BU asc f g h p):=⋯
theorem ab6:(zP.map λp=>(iq (bT 198).sc WO).f TG (bg TG 12) p.re (BU asc f g h p))=zP.map λp=>aa ((.ret (.a4 8),p.re),stE asc f g h p):=⋯
end
theorem zQ(hp:(p.k0,p.k1)∈oj)(h:(p.at_=p.k0/\p.sp<=p.k1)\/(p.sp=p.k1/\p.at_<=p.k0)):p∈zP:=by
 obtain⟨k0,k,a,s⟩:=p;refine b7.mpr ⟨(k0,k),hp,?_⟩;rcases h with⟨e,h⟩|⟨e,h⟩
 ·have e:a=k0:=e
  clear hp;subst e;exact b0 _ (bF.mpr ⟨s,da (ew h),rfl⟩)
 ·have e:s=k:=e
  subst e;exact bo _ (bF.mpr ⟨a,da (ew h),rfl⟩)
theorem Qm(hp:(p.k0,p.k1)∈oj)(b:p.at_<p.k0)(c:p.sp<p.k1):p∈AN:=by
 obtain⟨k0,k,a,s⟩:=p;exact b7.mpr ⟨(k0,k),hp,b7.mpr ⟨a,da b,bF.mpr ⟨s,da c,rfl⟩⟩⟩
theorem WQ(h:a+(c - b)=k+1)(l:b<c):a+(c - (b+1))=k:=by
 rw[DM,<-ae.add_sub_assoc (o9 l),h];rfl
theorem ab7(h:c - b+a=k+1)(l:b<c):c - (b+1)+a=k:=by
 rw[nM]at h⊢;exact WQ h l
section
variable(asc:aE)(f g:ae->ae)
def vi(p:Pt):ab (ab ae):=g6 asc ((bC f p.k0).drop p.at_) ((bC g p.k1).drop p.sp)
theorem ZD(hp:p∈AN):(bg TG 12).ex (bT 198).sc (whB vh) p.re (BU asc f g h p)=
  cS (md asc (g (bP 3 p.sp)) (f (bP 3 p.at_))) (aa ((.next,p.ZC.re),BU asc f g (jJ h p.n g p.sp) p.ZC)) (aa ((.next,p.WN.re),BU asc f g (jJ h p.n f p.at_) p.WN)):=by
 have i:=JV (T:=TG) (⋯:iq (bT 198).sc xq=⟨λι r re=>mx (r.tr (bT 198).sc (JU xq) re) (r.ex (bT 198).sc (Y' xq) re) (r.ex (bT 198).sc (yg xq) re)⟩) (a5 (adT asc f g h) hp);rw[(λι ι ι=>⋯:∀l re σ,(bg TG 12).ex (bT 198).sc l re σ=x3 TG (bg TG 11) (bT 198).sc l re σ),(⋯:whB vh=[xq])]
 induction e:md asc (g (bP 3 p.sp)) (f (bP 3 p.at_)) with
 |true=>
  rw[e]at i;exact gm (i.trans (a5 (ab4 asc f g h) hp))
 |false=>
  rw[e]at i;exact gm (i.trans (a5 (ab5 asc f g h) hp))
theorem ZE:∀(k m:ae)(p:Pt)(h:ae->ae),(p.k0,p.k1)∈oj->p.at_<=p.k0->p.sp<=p.k1->(p.k0 - p.at_)+(p.k1 - p.sp)=k->k<m->
  ∃e h',I5 (bg TG 12) (bT 198).sc (JU vh) (whB vh) m p.re (BU asc f g h p)=aa ((.next,e.re),BU asc f g h' e)/\e∈zP/\e.k0=p.k0/\e.k1=p.k1/\bC h' e.n++vi asc f g e=bC h p.n++vi asc f g p:=by
 intro k
 induction k with
 |zero=>
  intro m p h hp b d l i;obtain⟨m,rfl⟩:∃j,m=j+1:=⟨m - 1,((ae.sub_eq_iff_eq_add i).mp rfl)⟩;have he:=zQ hp (.inl ⟨gZ b (Ke (ae.add_eq_zero_iff.mp l).1),d⟩);exact⟨p,h,Dq (a5 (Ql asc f g h) he),he,rfl,rfl,rfl⟩
 |succ k x=>
  intro m p h hp b d l i;obtain⟨m,rfl⟩:∃j,m=j+1:=⟨m - 1,(iF (cD (bj _) i)).symm⟩
  by_cases c:p.at_<p.k0
  ·by_cases a:p.sp<p.k1
   ·have t:=Qm hp c a
    have hb:=ZD asc f g (h:=h) t;have o:vi asc f g p=cS (md asc (g (bP 3 p.sp)) (f (bP 3 p.at_))) (og g p.sp::vi asc f g p.ZC) (og f p.at_::vi asc f g p.WN):=by
     unfold vi;simp only[pM c,pM a,rX,L6];show cS _ _ _=cS _ (_::g6 asc ((bC f p.k0).drop p.at_) ((bC g p.k1).drop (p.sp+1))) (_::g6 asc ((bC f p.k0).drop (p.at_+1)) ((bC g p.k1).drop p.sp));simp only[pM c,pM a];rfl
    induction e:md asc (g (bP 3 p.sp)) (f (bP 3 p.at_)) with
    |true=>
     rw[e]at hb o;obtain⟨q,h',r,s,u,v,w⟩:=x m p.ZC (jJ h p.n g p.sp) hp b (show p.sp+1<=p.k1 from a) (WQ l a) (eV i)
     refine⟨q,h',(FQ (a5 (Qi asc f g h) t) hb).trans r,s,u,v,w.trans ?_⟩;rw[o];have e2:bC (jJ h p.n g p.sp) p.ZC.n=bC h p.n++[og g p.sp]:=zO h g p.n p.sp;rw[e2,eo];rfl
    |false=>
     rw[e]at hb o;obtain⟨q,h',r,s,u,v,w⟩:=x m p.WN (jJ h p.n f p.at_) hp (show p.at_+1<=p.k0 from c) d (ab7 l c) (eV i)
     refine⟨q,h',(FQ (a5 (Qi asc f g h) t) hb).trans r,s,u,v,w.trans ?_⟩;rw[o];have e2:bC (jJ h p.n f p.at_) p.WN.n=bC h p.n++[og f p.at_]:=by
      have:p.WN.n=p.n+1:=ae.succ_add p.at_ p.sp;rw[this];exact zO h f p.n p.at_
     rw[e2,eo];rfl
   ·have he:=zQ hp (.inr ⟨gZ d (h4 a),b⟩)
    exact⟨p,h,Dq (a5 (Ql asc f g h) he),he,rfl,rfl,rfl⟩
  ·have he:=zQ hp (.inl ⟨gZ b (h4 c),d⟩)
   exact⟨p,h,Dq (a5 (Ql asc f g h) he),he,rfl,rfl,rfl⟩
end
def Hd(rs:ab (ab ae)):Prop:=∀r∈rs,dK r=65\/dK r=66\/dK r=67
theorem mK(h:r∈dP rs c):r∈rs/\dK r=c:=⟨(eZ.mp h).1,ay (eZ.mp h).2⟩
theorem ju(a b:ab (ab ae))(c:ae):dP (a++b) c=dP a c++dP b c:=ab.filter_append ..
theorem zR(rs:ab (ab ae))(c:ae):dP (dP rs c) c=dP rs c:=Mz.mpr λr h=>(eZ.mp h).2
theorem FR(h:∀r∈rs,dK r≠c):dP rs c=[]:=ab.filter_eq_nil_iff.mpr λr a e=>h r a (ay e)
theorem mO(rs:ab (ab ae))(h:c≠d):dP (dP rs c) d=[]:=FR λr a e=>h ((mK a).2.symm.trans e)
theorem zS(h:r∈nA rs asc):r∈rs:=by
 cases asc<;>
 ·rcases bE.mp h with h|h
  ·exact(mK h).1
  ·rcases bE.mp h with h|h<;>exact(mK h).1
theorem Qn(h:Hd rs):(nA rs asc).length=rs.length:=by
 have main:(dP rs 65).length+((dP rs 66).length+(dP rs 67).length)=rs.length:=by
  induction rs with
  |nil=>rfl|cons r rs i=>
   have i:=i λx a=>h x (aK _ a);have e:∀c,dP (r::rs) c=if dK r=c then r::dP rs c else dP rs c:=λc=>by
    unfold dP;rw[R_]
    by_cases q:dK r=c
    ·rw[bc q,bc (by rw[q];exact eL c)]
    ·rw[aU q,aU λz=>q (ay z)]
   simp only[e,e,e,cY];rcases h r ax with q|q|q<;>rw[q]<;>simp<;>lia
 rcases asc
 ·show(dP rs 67++(dP rs 66++dP rs 65)).length=_
  rw[bV,bV];lia
 ·show(dP rs 65++(dP rs 66++dP rs 67)).length=_
  rw[bV,bV];lia
theorem Qo(h:Hd rs):iy asc rs=nA rs asc:=by
 have n:∀l:ab ae,(l.all λc=>dU (au c 65)&&dU (au c 66)&&dU (au c 67))=aq->(l.flatMap λc=>rs.filter λr=>au (dK r) c)=[]:=λl b=>ab.flatMap_eq_nil_iff.mpr λc a=>by
  have a:=qg.mp b c a;refine FR λr d e=>?_;rcases h r d with q|q|q<;>rw[q]at e<;>subst e<;>exact nomatch a
 have up:bh 256=(bh 256).take 65++([65,66,67]++(bh 256).drop 68):=⋯
 induction asc with
 |true=>
  show((bh 256).flatMap _)=_;rw[up,nh,nh,(n ((bh 256).take 65) (⋯)),(n ((bh 256).drop 68) (⋯))];show dP rs 65++(dP rs 66++(dP rs 67++[]))++[]=_;rw[dj,dj];rfl
 |false=>
  show((bh 256).reverse.flatMap _)=_;rw[up,MA,MA,nh,nh,(n ((bh 256).take 65).reverse (⋯)),(n ((bh 256).drop 68).reverse (⋯))];show[]++(dP rs 67++(dP rs 66++(dP rs 65++[])))++[]=_;rw[dj,dj];rfl
section
variable{asc:aE}{c:ae}{A B X Y:ab (ab ae)}
theorem zT(b:∀r∈A,dK r=c)(d:∀r∈Y,gy asc (dK r) c=ai):g6 asc (A++X) Y=A++g6 asc X Y:=by
 induction A with
 |nil=>rfl|cons a A i=>
  induction Y using a6 with
  |nil=>rw[(kj asc _).2,(kj asc _).2]|cons y Y=>
   show g6 asc (a::(A++X)) (y::Y)=_;simp only[rX,b a ax,d y ax];rw[(i λr h=>b r (aK _ h))];rfl
theorem BV(hb:∀r∈B,dK r=c)(a:∀r∈X,gy asc c (dK r)=aq):g6 asc X (B++Y)=B++g6 asc X Y:=by
 induction B with
 |nil=>rfl|cons b B i=>
  induction X using a6 with
  |nil=>rw[(kj asc _).1,(kj asc _).1]|cons x X=>
   show g6 asc (x::X) (b::(B++Y))=_;simp only[rX,hb b ax,a x ax];rw[(i λr h=>hb r (aK _ h))];rfl
end
theorem ab8(f:gy asc a b=aq/\gy asc b a=ai)(i:gy asc b d=aq/\gy asc d b=ai)(j:gy asc a d=aq/\gy asc d a=ai)(k:gy asc a a=ai/\gy asc b b=ai/\gy asc d d=ai)(xs ys:ab (ab ae)):
  g6 asc (dP xs a++(dP xs b++dP xs d)) (dP ys a++(dP ys b++dP ys d))=(dP xs a++dP ys a)++((dP xs b++dP ys b)++(dP xs d++dP ys d)):=by
 have m:∀{l:ab (ab ae)}{e:ae}(P:ae->Prop),P e->∀r∈dP l e,P (dK r):=λP h r n=>(mK n).2.symm▸h;have o:∀{l:ab (ab ae)}{e g:ae}(P:ae->Prop),P e->P g->∀r∈dP l e++dP l g,P (dK r):=λP p q r n=>(bE.mp n).elim (m P p r) (m P q r);rw[zT (λr h=>(mK h).2) (λr h=>(bE.mp h).elim (m (λx=>gy asc x a=ai) k.1 r) (o (λx=>gy asc x a=ai) f.2 j.2 r)),
  BV (λr h=>(mK h).2) (o (λx=>gy asc a x=aq) f.1 j.1),zT (λr h=>(mK h).2) (o (λx=>gy asc x b=ai) k.2.1 i.2),
  BV (λr h=>(mK h).2) (m (λx=>gy asc b x=aq) i.1)]
 have s:=by
  have:=zT (A:=dP xs d) (X:=[]) (Y:=dP ys d) (λr h=>(mK h).2) (m (λx=>gy asc x d=ai) k.2.2);rw[dj,(kj asc _).1]at this;exact this
 rw[s];simp only[eo]
theorem U7(xs ys:ab (ab ae)):g6 asc (nA xs asc) (nA ys asc)=nA (nA xs asc++nA ys asc) asc:=by
 have e:∀a b d:ae,a≠b->b≠d->a≠d->∀z:ab (ab ae),dP (dP z a++(dP z b++dP z d)) a=dP z a/\dP (dP z a++(dP z b++dP z d)) b=dP z b/\dP (dP z a++(dP z b++dP z d)) d=dP z d:=λa b d i j k z=>by
  refine⟨?_,?_,?_⟩
  ·simp only[ju,ju,zR,mO _ i.symm,mO _ k.symm];simp
  ·simp only[ju,ju,zR,mO _ i,mO _ j.symm];simp
  ·simp only[ju,ju,zR,mO _ j,mO _ k];simp
 rcases asc
 ·obtain⟨x1,x,f⟩:=e 67 66 65 (by decide) (by decide) (by decide) xs
  obtain⟨y,g,h⟩:=e 67 66 65 (by decide) (by decide) (by decide) ys
  show g6 ai (dP xs 67++(dP xs 66++dP xs 65)) (dP ys 67++(dP ys 66++dP ys 65))=dP (_++_) 67++(dP (_++_) 66++dP (_++_) 65);rw[ab8 ⟨rfl,rfl⟩ ⟨rfl,rfl⟩ ⟨rfl,rfl⟩ ⟨rfl,rfl,rfl⟩,ju (nA xs ai),ju (nA xs ai),ju (nA xs ai)];show _=(dP (dP xs 67++(dP xs 66++dP xs 65)) 67++dP (dP ys 67++(dP ys 66++dP ys 65)) 67)++((dP (dP xs 67++(dP xs 66++dP xs 65)) 66++dP (dP ys 67++(dP ys 66++dP ys 65)) 66)++(dP (dP xs 67++(dP xs 66++dP xs 65)) 65++dP (dP ys 67++(dP ys 66++dP ys 65)) 65));simp only[x1,x,f,y,g,h]
 ·obtain⟨x1,x,f⟩:=e 65 66 67 (by decide) (by decide) (by decide) xs
  obtain⟨y,g,h⟩:=e 65 66 67 (by decide) (by decide) (by decide) ys
  show g6 aq (dP xs 65++(dP xs 66++dP xs 67)) (dP ys 65++(dP ys 66++dP ys 67))=dP (_++_) 65++(dP (_++_) 66++dP (_++_) 67);rw[ab8 ⟨rfl,rfl⟩ ⟨rfl,rfl⟩ ⟨rfl,rfl⟩ ⟨rfl,rfl,rfl⟩,ju (nA xs aq),ju (nA xs aq),ju (nA xs aq)];show _=(dP (dP xs 65++(dP xs 66++dP xs 67)) 65++dP (dP ys 65++(dP ys 66++dP ys 67)) 65)++((dP (dP xs 65++(dP xs 66++dP xs 67)) 66++dP (dP ys 65++(dP ys 66++dP ys 67)) 66)++(dP (dP xs 65++(dP xs 66++dP xs 67)) 67++dP (dP ys 65++(dP ys 66++dP ys 67)) 67));rw[x1,x,f,y,g,h]
section
variable{asc:aE}{f:ae->ae}{k:ae}
theorem zU(d:Hd (bC f k)):dq (nA (bC f k) asc)=aC (eE asc f k) k/\bC (eE asc f k) k=nA (bC f k) asc:=by
 have g:∀r∈nA (bC f k) asc,r.length=3:=λr h=>(fK f k).2 r (zS h);have l:(nA (bC f k) asc).length=k:=(Qn d).trans (fK f k).1;have a:=oQ g;have b:=q8 g;rw[l]at a b;unfold eE;rw[Qo d];exact⟨a.symm,b⟩
theorem Qp(a:k∈bh 13)(d:Hd (bC f k)):∃τ,Good 49 227 [.a4 0,.bool asc] ⟨Ge [.list (aC f k)],eP [.list (aC f k)]⟩ (.a4 1) τ/\p6 (eP [.list (aC f k)]) [1] (aa (.a4 1,τ))=aa (.a4 1,d6 [] [.list (aC f k)],[.list (aC (eE asc f k) k)]):=by
 have si:(bC f k).length<=12:=by
  rw[(fK f k).1];have h:((bh 13).map λk=>cf k 12)=(bh 13).map λι=>aq:=⋯;exact bx (a5 h a)
 have r:=Zz (asc:=asc) (fK f k).2 si;have s:ki (bC f k)=⟨Ge [.list (aC f k)],eP [.list (aC f k)]⟩:=by rw[iQ];kernel_rfl
 have t:Qd (bC f k) asc=⟨.node (.list (aC f k)) (.node (.list (aC (eE asc f k) k)) .nil .nil) .nil,2⟩:=by rw[iQ f,<-(zU d).1];rfl
 rw[s,t]at r;refine⟨_,kc (n:=0) (b:=8) (N:=20) ⟨bj _,aF _⟩ eQ r,?_⟩;have g:∀H:ae->ae,((bh 13).map λk=>p6 (eP [.list (aC f k)]) [1] (aa (.a4 1,(⟨.node (.list (aC f k)) (.node (.list (aC H k)) .nil .nil) .nil,2⟩:St))))=(bh 13).map λk=>aa (.a4 1,d6 [] [.list (aC f k)],[.list (aC H k)]):=λH=>⋯;exact a5 (g _) a
theorem zV(a:k∈bh 13)(d:Hd (bC f k))(e1:q6 [l] [.a4 l,.bool asc] σ=aa ([.a4 0,.bool asc],[.list (aC f k)]))(e3:j_ [l] (λι ι=>aa (.a4 1,[],[.list (aC (eE asc f k) k)])) [.a4 l,.bool asc] σ=aa (v,τ)):Good 49 227 [.a4 l,.bool asc] σ v τ:=by
 obtain⟨b,g,z⟩:=Qp (asc:=asc) a d;exact kR (lab:=[l]) (ks:=[1]) (ups:=[]) (nw:=[.list (aC (eE asc f k) k)]) e1 (t0:=Ge [.list (aC f k)]) (⋯) g (v:=.a4 1) z e3
end
section
variable(c:Cfg)(f F G h:ae->ae)(o0 od:MO)(q:ab (ae×Int))(M:ab ae)(he e:ae)(asc:aE)
theorem ab9:(bu.map λp=>(q6 [3] [.a4 3,.bool asc] (nz c f p o0 q M),q6 [4] [.a4 4,.bool asc] (H_ c f F p o0 q M)))=bu.map λp=>(aa ([.a4 0,.bool asc],[.list (aC f p.1)]),aa ([.a4 0,.bool asc],[.list (aC (oh f p.1) p.2)])):=⋯
theorem WR:(bu.map λp=>(j_ [3] (λι ι=>aa (.a4 1,[],[.list (aC F p.1)])) [.a4 3,.bool asc] (nz c f p o0 q M),j_ [4] (λι ι=>aa (.a4 1,[],[.list (aC G p.2)])) [.a4 4,.bool asc] (H_ c f F p o0 q M)))=
  bu.map λp=>(aa (.a4 65,H_ c f F p o0 q M),aa (.a4 66,UC c f F G p o0 q M)):=⋯
theorem aca:(bu.map λp=>(bh 3).map λway=>q6 [aM 5 (bL way)] [.a4 (aM 5 (bL way)),.bool asc] (H6 c f F G h p o0 od q M he e (nP p) way))=bu.map λp=>(bh 3).map λway=>aa ([.a4 0,.bool asc],[.list (iI F G p)]):=⋯
theorem ZF(D:ae->ae):(bu.map λp=>(bh 3).map λway=>j_ [aM 5 (bL way)] (λι ι=>aa (.a4 1,[],[.list (aC D (nP p))])) [.a4 (aM 5 (bL way)),.bool asc] (H6 c f F G h p o0 od q M he e (nP p) way))=
  bu.map λp=>(bh 3).map λway=>aa (.a4 (aM 6 (bL way)),LY c f F G h D p o0 od q M he e (nP p) way):=⋯
end
section
variable{c:Cfg}{f F G h:ae->ae}{o0 od:MO}{q:ab (ae×Int)}{M:ab ae}{he e way:ae}{asc:aE}{p:ae×ae}
theorem good3(hp:p∈bu)(d:Hd (bC f p.1)):Good 49 227 [.a4 3,.bool asc] (nz c f p o0 q M) (.a4 65) (H_ c f (eE asc f p.1) p o0 q M):=
 zV (wG hp).1 d (av (a5 (ab9 c f f o0 q M asc) hp)).1 (av (a5 (WR c f (eE asc f p.1) f o0 q M asc) hp)).1
theorem acb(hp:p∈bu)(d:Hd (bC (oh f p.1) p.2)):Good 49 227 [.a4 4,.bool asc] (H_ c f F p o0 q M) (.a4 66) (UC c f F (eE asc (oh f p.1) p.2) p o0 q M):=
 zV (wG hp).2.1 d (av (a5 (ab9 c f F o0 q M asc) hp)).2 (av (a5 (WR c f F (eE asc (oh f p.1) p.2) o0 q M asc) hp)).2
theorem ZG(hp:p∈bu)(w:way∈bh 3)(d:Hd (bC F p.1++bC G p.2)):Good 49 227 [.a4 (aM 5 (bL way)),.bool asc] (H6 c f F G h p o0 od q M he e (nP p) way) (.a4 (aM 6 (bL way))) (LY c f F G h (hW asc F G p) p o0 od q M he e (nP p) way):=by
 obtain⟨a,r⟩:=q9 F G p;have b:hW asc F G p=eE asc (mJ F G p) (nP p):=by unfold hW eE nP;rw[r]
 have s:=cN (k:=λι=>bh 3) (aca c f F G h o0 od q M he e asc) hp w;rw[a]at s;rw[b];refine zV (wG hp).2.2 ?_ s (cN (k:=λι=>bh 3) (ZF c f F G h o0 od q M he e asc _) hp w);show Hd (bC (mJ F G p) (aM p.1 p.2));rw[r];exact d
end
noncomputable def wc(w c:ae):V:=.cons (.int (.ofNat w)) (.cons (.int (.ofNat c)) .nil)
noncomputable def ms:ab ae:=[1,2,3,4,5,6,7,8,9,10,11,12,13]
section
variable(o0:MO)(w c:ae)
theorem U8:(ms.map λm=>d' T0 (bg T0 12) 221 [.a4 1,.int (.ofNat m)] (gN [o0,.list (wc (ar w) c)]))=ms.map λm=>aa (.int (.ofNat (ko (ar w) c m).1),gN [o0,.list (wc (ko (ar w) c m).2.1 (ko (ar w) c m).2.2)]):=⋯
theorem U9:(ms.map λm=>(bh 40).map λc=>d' T0 (bg T0 12) 221 [.a4 1,.int (.ofNat m)] (gN [o0,.list (wc 0 c)]))=ms.map λm=>(bh 40).map λc=>aa (.int (.ofNat (ko 0 c m).1),gN [o0,.list (wc (ko 0 c m).2.1 (ko 0 c m).2.2)]):=⋯
theorem ZH(h:m∈ms)(a:c<40):d' T0 (bg T0 12) 221 [.a4 1,.int (.ofNat m)] (gN [o0,.list (wc w c)])=aa (.int (.ofNat (ko w c m).1),gN [o0,.list (wc (ko w c m).2.1 (ko w c m).2.2)]):=by
 induction w with
 |zero=>exact cN (k:=λι=>bh 40) (U9 o0) h (da a)|succ w=>exact a5 (U8 o0 w c) h
end
section
variable{lab:ab ae}
theorem Ds(v:V):∃d,cT (dW lab) eA v=aa d/\∀ks,cT (iP lab.length ks) j9 d=aa d:=by
 induction v with
 |cons a b f g=>
  obtain⟨e,k,l⟩:=f;obtain⟨m,n,o⟩:=g;refine⟨.cons e m,?_,λks=>?_⟩
  ·show dI (cT (dW lab) eA a) (cT (dW lab) eA b) V.cons=_
   rw[k,n];rfl
  ·show dI (cT (iP lab.length ks) j9 e) (cT (iP lab.length ks) j9 m) V.cons=_
   rw[l,o];rfl
 |tup a p=>
  obtain⟨e,k,l⟩:=p;refine⟨.tup e,?_,λks=>?_⟩
  ·show ir (cT (dW lab) eA a) V.tup=_
   rw[k];rfl
  ·show ir (cT (iP lab.length ks) j9 e) V.tup=_
   rw[l];rfl
 |a4 i=>
  show ∃d,@bl ae (λι=>ao V) (aa (.gH (bP 2 i))) (λj=>aa (.a4 j)) (y8 lab i)=aa d/\_
  induction h:y8 lab i with
  |none=>exact⟨_,rfl,λι=>rfl⟩|some j=>
   refine⟨_,rfl,λks=>?_⟩;show iP lab.length ks j=_;unfold iP;rw[blt_iff.mpr (aV.mp (oI h)).1];rfl
 |_=>exact⟨_,rfl,λι=>rfl⟩
theorem Qq:∀as:aX,∃a,uS (dW lab) eA as=aa a/\∀ks,uS (iP lab.length ks) j9 a=aa a:=by
 intro as
 induction as with
 |nil=>exact⟨[],rfl,λι=>rfl⟩|cons p r i=>
  obtain⟨r',b,d⟩:=i;obtain⟨v,e,f⟩:=Ds (lab:=lab) p.2;refine⟨(p.1,v)::r',?_,λks=>?_⟩
  ·show dI (cT (dW lab) eA p.2) (uS (dW lab) eA r) _=_
   rw[b,e];rfl
  ·show dI (cT (iP lab.length ks) j9 v) (uS (iP lab.length ks) j9 r') _=_
   rw[d,f];rfl
theorem FT(o:MO):∃o',mapM (dW lab) eA o=aa o'/\∀ks,mapM (iP lab.length ks) j9 o' =aa o' :=by
 induction o with
 |list l=>
  obtain⟨d,a,b⟩:=Ds (lab:=lab) l;refine⟨.list d,?_,λks=>?_⟩
  ·show ir (cT (dW lab) eA l) _=_
   rw[a];rfl
  ·show ir (cT (iP lab.length ks) j9 d) _=_
   rw[b];rfl
 |dict l e=>
  obtain⟨d,a,b⟩:=Ds (lab:=lab) l;refine⟨.dict d e,?_,λks=>?_⟩
  ·show ir (cT (dW lab) eA l) _=_
   rw[a];rfl
  ·show ir (cT (iP lab.length ks) j9 d) _=_
   rw[b];rfl
 |inst c as=>
  obtain⟨d,a,b⟩:=Qq (lab:=lab) as;refine⟨.inst c d,?_,λks=>?_⟩
  ·show ir (uS (dW lab) eA as) _=_
   rw[a];rfl
  ·show ir (uS (iP lab.length ks) j9 d) _=_
   rw[b];rfl
 |_=>exact⟨_,rfl,λι=>rfl⟩
end
theorem Qr(h:t.get u=aa (.list (wc w c)))(d:t.get 0=aa o0)(pos:bH 0 u=aq)(e:m∈ms)(f:c<40):
  Good 33 221 [.a4 u,.int (.ofNat m)] ⟨t,n⟩ (.int (.ofNat (ko w c m).1)) ⟨t.set u (.list (wc (ko w c m).2.1 (ko w c m).2.2)),n⟩:=by
 obtain⟨o',g,i⟩:=FT (lab:=[0,u]) o0;have a:au 0 u=ai:=by
  induction u with
  |zero=>exact fT pos|succ u=>rfl
 have j:dW [0,u] u=aa (.a4 1):=by
  show@bl ae (λι=>ao V) _ _ (cS (au 0 u) (aa 0) (ir (cS (au u u) (aa 0) (ir aw ar)) ar))=_;rw[a,J2];rfl
 have e1:dI (qp (cT (dW [0,u]) eA) [.a4 u,.int (.ofNat m)]) (i6 (mapM (dW [0,u]) eA) (⟨t,n⟩:St).t [0,u]) dE=aa ([.a4 1,.int (.ofNat m)],[o',.list (wc w c)]):=by
  show dI (dI (dW [0,u] u) (dI (aa (.int (.ofNat m))) (aa []) cQ) cQ) (@bl MO (λι=>ao (ab MO)) aw (λo=>dI (mapM (dW [0,u]) eA o) (@bl MO (λι=>ao (ab MO)) aw (λo=>dI (mapM (dW [0,u]) eA o) (aa []) cQ) (t.get u)) cQ) (t.get 0)) dE=_;rw[j,d,h];show dI (aa [V.a4 1,.int (.ofNat m)]) (dI (mapM (dW [0,u]) eA o0) (aa [.list (wc w c)]) cQ) dE=_;rw[g];rfl
 have k:=kc (n:=0) (b:=8) (N:=12) ⟨bj _,aF _⟩ eQ (ZH o' w c e f);refine kR (lab:=[0,u]) (ups:=[(1,.list (wc (ko w c m).2.1 (ko w c m).2.2))]) (nw:=[]) (ks:=[]) e1 (t0:=Ge [o',.list (wc w c)]) (⋯) k (v:=.int (.ofNat (ko w c m).1)) ?_ ?_
 ·show dI (aa (V.int _)) (dI (dI (mapM (iP 2 []) j9 o') (aa [.list (wc (ko w c m).2.1 (ko w c m).2.2)]) cQ) (aa []) dE) dE=_
  rw[show mapM (iP 2 []) j9 o' =aa o' from i []];rfl
 ·unfold j_
  have l:Aj [0,u]=aq:=by
   show cS (cS (dU (au 0 u)) aq ai) aq ai=aq;rw[a];rfl
  have hb:(dG [0,u] aq λι r=>r7 (bH 0) r)=aq:=by
   show cS (bH 0 u) aq ai=aq;rw[pos];rfl
  rw[l,hb,e1];rfl
section
variable(asc:aE)(f g:ae->ae)
def reQ:aX:=[(enc (aL "one"),.a4 2),(enc (aL "other"),.a4 3),(enc (aL "keys"),.a4 0)]
noncomputable def p0(k:ae×ae):Pt:=⟨k.1,k.2,0,0⟩
theorem acd(h:ae->ae):(oj.map λk=>(iq (bT 198).sc (iM (bT 198).body)).f TG (bg TG 12) reQ (gN (Ik asc f g k.1 k.2)))=oj.map λk=>aa ((.next,(p0 k).re),BU asc f g h (p0 k)):=⋯
def Dt(a:aE)(b:ae->ae)(c:ae->ae)(k:ae×ae):Prop:=∀(h:k∈oj),∃e h',d' TG (bg TG 13) 198 [.a4 2,.a4 3,.a4 0] (gN (Ik a b c k.1 k.2))=aa (.a4 8,stE a b c h' e)/\e∈zP/\e.k0=k.1/\e.k1=k.2/\bC h' e.n++vi a b c e=g6 a (bC b k.1) (bC c k.2)
def J5:=λx:(_×_)×_×_=>Dt x.1.1 x.1.2 x.2.1 x.2.2
def yd:=qy bB J5
namespace J6
def a:=yd.1.1
def b:=yd.1.2
def c:=yd.2.1
def k:=yd.2.2
theorem ok:Dt a b c k:=by
 intro d;have hb:(bT 198).body=[iM (bT 198).body,vh,WO]:=⋯;have A:iq (bT 198).sc vh=⟨λι r re=>I5 r (bT 198).sc (JU vh) (whB vh) hM re⟩:=⋯;have j:hM=90:=⋯;have x:∀l re σ,(bg TG 13).ex (bT 198).sc l re σ=x3 TG (bg TG 12) (bT 198).sc l re σ:=λι ι ι=>⋯;have h:(oj.map λk=>(cf k.1 12,cf k.2 12))=oj.map λι=>(aq,aq):=⋯;have h:=av (a5 h d);have s:=bx h.1;have t:=bx h.2;obtain⟨e,h',m,i,n,o,p⟩:=ZE a b c (k.1+k.2) 90 (p0 k) (λι=>0) d (bj _) (bj _) (show(k.1 - 0)+(k.2 - 0)=k.1+k.2 by lia) (by lia)
 refine⟨e,h',?_,i,n,o,p⟩;have w1:(iq (bT 198).sc vh).f TG (bg TG 12) (p0 k).re (BU a b c (λι=>0) (p0 k))=aa ((.next,e.re),BU a b c h' e):=by
  rw[A];show I5 (bg TG 12) (bT 198).sc (JU vh) (whB vh) hM (p0 k).re (BU a b c (λι=>0) (p0 k))=_;rw[j];exact m
 rw[jy (T:=TG) (f:=bT 198) (re:=reQ) (⋯) (⋯) (⋯)];have q:(bg TG 13).ex (bT 198).sc (bT 198).body reQ (gN (Ik a b c k.1 k.2))=aa ((.ret (.a4 8),e.re),stE a b c h' e):=by
  rw[x,hb,gm (a5 (acd a b c λι=>0) d),gm w1];exact mF (a5 (ab6 a b c h') i)
 exact cw (f:=yo) q
end J6
theorem ZI(asc:aE)(f:ae->ae)(g:ae->ae)(k:ae×ae):Dt asc f g k:=@d5 _ _ J5 @J6.ok ((asc,f),g,k)
end
theorem BW:∀(n:ae)(l:ab (ab ae)),ud n (dq l)=dq (l.drop n):=by
 intro n
 induction n with
 |zero=>intro l;rfl|succ n i=>intro l;induction l with
  |nil=>rfl|cons x l=>exact i l
theorem Qs(h:p∈zP):p.at_=p.k0\/p.sp=p.k1:=by
 obtain⟨k,_,h⟩:=b7.mp h;rcases bE.mp h with h|h
 ·obtain⟨s,_,rfl⟩:=bF.mp h;exact .inl rfl
 ·obtain⟨s,_,rfl⟩:=bF.mp h;exact .inr rfl
section
variable(asc:aE)(f g h:ae->ae)
theorem U_(hp:p∈zP):U6 f g h p=dq (bC h p.n++vi asc f g p):=by
 have l:=(fK f p.k0).1;have l1:=(fK g p.k1).1;unfold U6 vi;rw[iQ,iQ,iQ,BW,BW,zG,zG,eo];rcases Qs hp with e|e
 ·have:(bC f p.k0).drop p.at_=[]:=ig (by lia)
  rw[this,(kj asc _).1];rfl
 ·have:(bC g p.k1).drop p.sp=[]:=ig (by lia)
  rw[this,(kj asc _).2,dj]
theorem m_gc:(zP.map λp=>p6 4 [8] (aa (.a4 8,stE asc f g h p)))=zP.map λp=>aa (.a4 4,Ik asc f g p.k0 p.k1,[.list (U6 f g h p)]):=⋯
theorem ace(k:ae×ae)(b:k∈oj):∃τ,d' TG (bg TG 13) 198 [.a4 2,.a4 3,.a4 0] (gN (Ik asc f g k.1 k.2))=aa (.a4 8,τ)/\p6 4 [8] (aa (.a4 8,τ))=aa (.a4 4,Ik asc f g k.1 k.2,[.list (dq (g6 asc (bC f k.1) (bC g k.2)))]):=by
 obtain⟨e,h',c,a,d,i,j⟩:=ZI asc f g k b;refine⟨_,c,(a5 (m_gc asc f g h') a).trans ?_⟩;rw[U_ asc f g h' a,j,d,i]
end
theorem Qt(asc:aE):∀(xs ys:ab (ab ae)),(g6 asc xs ys).length=xs.length+ys.length/\∀r∈g6 asc xs ys,r∈xs\/r∈ys:=by
 intro xs
 induction xs with
 |nil=>intro ys;rw[(kj asc ys).1];exact⟨by simp,λr h=>.inr h⟩|cons x xs a=>
  intro ys
  induction ys with
  |nil=>rw[(kj asc _).2];exact⟨by simp,λr h=>.inl h⟩|cons y ys i=>
   rw[rX]
   induction gy asc (dK y) (dK x) with
   |true=>
    refine⟨?_,λr h=>?_⟩
    ·show(y::g6 asc (x::xs) ys).length=_
     rw[cY,i.1];simp only[cY];lia
    ·rcases aG.mp (show r∈y::g6 asc (x::xs) ys from h) with e|h
     ·exact .inr (e▸ax)
     ·exact(i.2 r h).elim .inl λh=>.inr (aK _ h)
   |false=>
    refine⟨?_,λr h=>?_⟩
    ·show(x::g6 asc xs (y::ys)).length=_
     rw[cY,(a (y::ys)).1];simp only[cY];lia
    ·rcases aG.mp (show r∈x::g6 asc xs (y::ys) from h) with e|h
     ·exact .inl (e▸ax)
     ·exact((a (y::ys)).2 r h).elim (λh=>.inl (aK _ h)) .inr
theorem Qu(asc:aE)(f g:ae->ae)(k:ae×ae):dq (g6 asc (bC f k.1) (bC g k.2))=aC (f' (g6 asc (bC f k.1) (bC g k.2))) (aM k.1 k.2)/\
  bC (f' (g6 asc (bC f k.1) (bC g k.2))) (aM k.1 k.2)=g6 asc (bC f k.1) (bC g k.2):=by
 obtain⟨b,c⟩:=Qt asc (bC f k.1) (bC g k.2);have a:∀r∈g6 asc (bC f k.1) (bC g k.2),r.length=3:=λr h=>(c r h).elim ((fK f k.1).2 r) ((fK g k.2).2 r);have l:(g6 asc (bC f k.1) (bC g k.2)).length=aM k.1 k.2:=by rw[b,(fK f k.1).1,(fK g k.2).1];rfl
 rw[<-l];exact⟨(oQ a).symm,q8 a⟩
theorem U'(asc:aE)(f g:ae->ae)(k:ae×ae)(a:k∈oj):∃τ t0,qX (Ik asc f g k.1 k.2) .nil 0=aa t0/\Good 62 198 [.a4 2,.a4 3,.a4 0] ⟨t0,eP (Ik asc f g k.1 k.2)⟩ (.a4 8) τ/\
  p6 (eP (Ik asc f g k.1 k.2)) [8] (aa (.a4 8,τ))=aa (.a4 4,d6 [] (Ik asc f g k.1 k.2),[.list (aC (f' (g6 asc (bC f k.1) (bC g k.2))) (aM k.1 k.2))]):=by
 obtain⟨τ,c,h⟩:=ace asc f g k a;rw[(Qu asc f g k).1]at h;have t:qX (Ik asc f g k.1 k.2) .nil 0=aa (Ge (Ik asc f g k.1 k.2)):=⋯;refine⟨τ,Ge (Ik asc f g k.1 k.2),t,?_,h⟩;exact kc (n:=35) (b:=35) (N:=13) ⟨aF _,by decide⟩ Qh c
theorem Qv(e:YO h=aa r):h=.eN r/\r.length=3:=by
 induction h with
 |eN l=>
  have e:ir (eB (au (ji l) 3) (rt l) ⟨.nil,0⟩) Xi=aa r:=e
  induction hb:au (ji l) 3 with
  |false=>rw[hb]at e;exact b6 e|true=>
   rw[hb]at e
   cases e
   exact⟨rfl,(fU l).symm.trans (ay hb)⟩
 |_=>exact b6 e
theorem BX:∀{rs:ab (ab ae)},q7 v=aa rs->v=dq rs/\∀r∈rs,r.length=3:=by
 induction v with
 |nil=>intro rs e;cases e;exact⟨rfl,λr h=>sr h⟩|cons h t d i=>
  intro rs e;obtain⟨r,s,e1,e2,rfl⟩:=dO (o:=YO h) (p:=q7 t) e;obtain⟨rfl,a⟩:=Qv e1;obtain⟨rfl,b⟩:=i e2;exact⟨rfl,λq c=>(aG.mp c).elim (λe=>e▸a) (b q)⟩
 |_=>intro rs e;exact b6 e
theorem tQ(e:q7 v=aa rs):v=aC (f' rs) rs.length/\bC (f' rs) rs.length=rs:=by
 obtain⟨rfl,h⟩:=BX e;exact⟨(oQ h).symm,q8 h⟩
def FOK(n j:ae)(F:OF):Prop:=∀a mu v ups nw,F a mu=aa (v,ups,nw)->∃ks c b t0,qX mu .nil 0=aa t0/\Good n j a ⟨t0,eP mu⟩ c b/\p6 (eP mu) ks (aa (c,b))=aa (v,d6 ups mu,nw)
theorem Du(c:FOK n j F)(e:HV l F as σ=aa (v,τ)):Good n j as σ v τ:=by
 unfold HV at e
 induction b:l as σ with
 |none=>exact b6 (b▸e)|some lab=>
  exactλG H us k r S A Q R q=>De H (λa mu v ups nw ι ι h=>c a mu v ups nw h) r v τ (b▸e) S A Q R q
theorem Va(a:FOK n k F):dH n (only k (HV l F)):=λj as σ v τ e=>by
 unfold only at e
 induction h:au j k with
 |false=>exact b6 (h▸e)|true=>replace e:=h▸e;obtain rfl:=ay h;exact Du a e
theorem Dv{α:Type}{c:Rm α}{σ:St}{a:α}(h:YP c σ=aa a):∃τ,c σ=aa (a,τ):=by
 obtain⟨p,e,rfl⟩:=fI h;exact⟨p.2,e⟩
section
variable{α β:Type}{σ:St}{p:α×St}{v:V}
theorem FU{f:MO->MO->MO->MO->ao β}(h:four l f=aa x):∃a b c d,l=[a,b,c,d]/\f a b c d=aa x:=by
 rcases l with _|⟨a,_|⟨b,_|⟨c,_|⟨d,_|_⟩⟩⟩⟩
 any_goals exact b6 h
 exact⟨a,b,c,d,rfl,h⟩
theorem Qw{f:MO->MO->MO->MO->MO->ao β}(h:abx l f=aa x):∃e a b c d,l=[e,a,b,c,d]/\f e a b c d=aa x:=by
 induction l using a6 with
 |nil=>exact b6 h|cons e r=>
  refine ck λk=>?_;obtain⟨a,b,c,d,rfl,h⟩:=FU h;exact k ⟨e,a,b,c,d,rfl,h⟩
theorem zW{f:V->V->Rm α}(h:ue as f σ=aa p):∃a b,as=[a,b]/\f a b σ=aa p:=by
 rcases as with _|⟨a,_|⟨b,_|_⟩⟩
 any_goals exact b6 h
 exact⟨a,b,rfl,h⟩
theorem rY{c:Rm α}(h:YT v n c σ=aa p):v=.a4 n/\c σ=aa p:=by
 obtain⟨k,o,rfl,_,h⟩:=yc h;obtain⟨a,h⟩:=hV h;exact⟨by rw[ay a],h⟩
structure WS(n m:ae)(f:ab (ab ae)->ab (ab ae)->Rm α)(σ:St)(p:α×St)(k:ae×ae)(g0 g1:ae->ae):Prop where
 mem:k∈oj
 fst:σ.t.get n=aa (.list (aC g0 k.1))
 snd:σ.t.get m=aa (.list (aC g1 k.2))
 run:f (bC g0 k.1) (bC g1 k.2) σ=aa p
 l0:AK (bC g0 k.1)=k.1
 l1:AK (bC g1 k.2)=k.2
theorem Qx(h:a+b<=12):(a,b)∈oj:=by
 refine b7.mpr ⟨a+b,da (ew h),bF.mpr ⟨a,da (ew (bp a b)),?_⟩⟩;show(a,a+b - a)=_;rw[hZ]
theorem vj{f:V->Rm α}(h:cb (.a4 n) (λι l=>f l) σ=aa p):∃l,σ.t.get n=aa (.list l)/\f l σ=aa p:=by
 refine ck λk=>?_;obtain⟨_,l,e,a,h⟩:=FO h;obtain rfl:=V.a4.inj e;exact k ⟨l,a,h⟩
theorem BY(h:PF (.a4 n) (.a4 m) f σ=aa p):∃k g g1,WS n m f σ p k g g1:=by
 refine ck λd=>?_;obtain⟨s,e,h⟩:=vj h;obtain⟨l1,i,h⟩:=vj h;obtain⟨r,q,h⟩:=Dp h;obtain⟨a,j,h⟩:=Dp h;obtain⟨l,h⟩:=hV h;obtain⟨a0,b⟩:=tQ q;obtain⟨o,c⟩:=tQ j;refine d ⟨(r.length,a.length),f' r,f' a,Qx ?_,a0▸e,o▸i,by rw[b,c];exact h,by rw[b,rW],by rw[c,rW]⟩
 rw[<-rW,<-rW];exact bx l
end
theorem some_inj(h:aa a=aa b):a=b:=af h
def acf(asc:aE)(f g:ae->ae)(k:ae×ae):ab MO:=[.list (.cons (mI asc 1) .nil),mH,.list (aC f k.1),.list (aC g k.2)]
def FV(n:ae)(asc:aE)(f g:ae->ae)(k:ae×ae):OX:=(.a4 n,[],[.list (aC (f' (g6 asc (bC f k.1) (bC g k.2))) (aM k.1 k.2))])
theorem FW(z:WS a b (YU n asc) σ (x,τ) k f g):x=FV n asc f g k:=by
 rw[<-(av (some_inj z.run)).1,z.l0,z.l1];rfl
theorem Qy{a b c d:MO}{K q:ae}{asc:aE}{x:OX}{τ:St}(h:(gN [a,b,c,d]).t.get K=aa (.list (.cons (mI asc q) .nil)))(e:(gN [a,b,c,d]).t.get q=aa mH)(run:Wz K q asc (gN [a,b,c,d])=aa (x,τ)):
  ∃k f g,k∈oj/\K=0/\[a,b,c,d]=acf asc f g k/\x=FV 4 asc f g k:=by
 obtain⟨e0,r⟩:=hV (b:=au K 0) run;obtain⟨e1,i⟩:=hV (b:=au q 1) r;obtain⟨k,f,g,z⟩:=BY i
 replace e0:=ay e0
 rw[e0,ay e1]at h;rw[ay e1]at e;exact⟨k,f,g,z.mem,e0,by rw[some_inj (show aa a=_ from h),some_inj (show aa b=_ from e),some_inj (show aa c=_ from z.fst),some_inj (show aa d=_ from z.snd)];rfl,FW z⟩
theorem Qz{as:ab V}{mu:ab MO}{x:OX}(h:YV as mu=aa x):∃asc k f g,k∈oj/\as=[.a4 2,.a4 3,.a4 0]/\mu=acf asc f g k/\x=FV 4 asc f g k:=by
 obtain⟨a,b,c,d,e1,h⟩:=FU h;obtain⟨τ,h⟩:=Dv h;obtain⟨x1,e,j,e2,h⟩:=FP h;obtain⟨e3,h⟩:=rY (v:=x1) h;obtain⟨e4,h⟩:=rY (v:=e) h;obtain⟨K,q,asc,h⟩:=vg h;obtain⟨k,f,g,i,e5,e6,e7⟩:=Qy h.keys h.shape h.run;exact⟨asc,k,f,g,i,by rw[e2,e3,e4,h.eq,e5],e1.trans e6,e7⟩
theorem Vb:FOK 62 198 YV:=λas mu v ups nw h=>by
 obtain⟨asc,k,f,g,a,rfl,rfl,e⟩:=Qz h;clear h;obtain⟨rfl,q⟩:=av e;obtain⟨rfl,rfl⟩:=av q;obtain⟨τ,t0,z⟩:=U' asc f g k a;exact⟨[8],.a4 8,τ,t0,z⟩
def acg:ae->ab V->Rm V:=only 198 (HV YS YV)
theorem Vc:dH 62 acg:=Va Vb
def T8:Tab:=gh acg
def muM(asc:aE)(f g:ae->ae)(k:ae×ae):ab MO:=[.list (.cons (.a4 3) (.cons (.a4 4) .nil)),.list (.cons (mI asc 2) .nil),mH,.list (aC f k.1),.list (aC g k.2)]
section
variable{X:Ctx}{P:bZ}{ρ:fO}{h:bJ}{σ:St}
theorem TR.get_set{t:TR}{u:ae}{o o' :MO}(a:t.get u=aa o)(i:ae):(t.set u o').get i=if i=u then aa o' else t.get i:=TR.pf o' t u i (TR.qK o' t u (by rw[a];rfl))
theorem h5.QA(S:h5 X P ρ σ h)(a:σ.t.get u=aa o)(r:∀p,ρ[u]? =aa p->ia X P ρ h p o->ia X P ρ h p o'):h5 X P ρ ⟨σ.t.set u o',σ.n⟩ h:=by
 refine⟨S.base,S.len,S.above,S.apart,S.nt,λi x e=>?_,S.pl,S.x4⟩;have e:=e;rw[TR.get_set a]at e
 by_cases q:i=u
 ·rw[bc q]at e
  obtain rfl:=af e;obtain⟨p,hp,z⟩:=S.objs u o a;exact⟨p,q▸hp,r p hp z⟩
 ·rw[aU q]at e
  exact S.objs i x e
theorem h5.only(S:h5 X P ρ σ h){t:TR}(e:∀i o,t.get i=aa o->σ.t.get i=aa o):h5 X P ρ ⟨t,σ.n⟩ h:=⟨S.base,S.len,S.above,S.apart,S.nt,λi o z=>S.objs i o (e i o z),S.pl,S.x4⟩
theorem adU{t:TR}(h:t.get u=aa o):∃x,t.get 0=aa x:=by
 induction t with
 |nil=>exact b6 h|node v l r=>exact⟨v,rfl⟩
theorem QB(r:ia X P ρ h p (.jg t)):∃w c,c+t.length<=40/\ti w c t/\ia X P ρ h p (.list (wc w c)):=by
 refine ck λk=>?_;obtain⟨a,vs,n,b,w,c,t1,t2,rfl,d,e⟩:=r;exact k (⟨w,c,d,e,a,[.int (.ofNat w) t1,.int (.ofNat c) t2],n,(show 2<=4096 by decide),b,trivial,_,_,rfl,⟨t1,rfl⟩,_,_,rfl,⟨t2,rfl⟩,rfl⟩)
theorem FX(r:ia X P ρ h p (.list (wc w c)))(d:c+t.length<=40)(e:ti w c t):ia X P ρ h p (.jg t):=by
 refine ck λk=>?_;obtain⟨a,vs,n,_,b,_,u1,us,rfl,⟨t1,rfl⟩,u2,u,rfl,⟨t2,rfl⟩,z⟩:=r;have z:u=[]:=z;subst z;exact k ⟨a,_,n,b,w,c,t1,t2,rfl,d,e⟩
end
theorem QC{σ:St}{u m:ae}{r:Int}{q:ab (ae×Int)}(a:σ.t.get u=aa (.jg ((m,r)::q)))(pos:bH 0 u=aq)(j:m∈ms):Good 33 221 [.a4 u,.int (.ofNat m)] σ (.int r) ⟨σ.t.set u (.jg q),σ.n⟩:=λG H us k s S A Q R x=>by
 refine ck λy=>?_;obtain⟨p,hp,z⟩:=S.objs u _ a;obtain⟨w,c,d,⟨C,D⟩,z1⟩:=QB z;have E:=h5.QA S a λF f ι=>by
  obtain rfl:=af (hp.symm.trans f);exact z1
 have g:(σ.t.set u (.list (wc w c))).get u=aa (.list (wc w c)):=by rw[TR.get_set a,bc rfl]
 obtain⟨o0,I⟩:=adU g;have J:=by
  have:c+(q.length+1)<=40:=d;exact ri d
 refine y ?_;refine Qr g I pos j J G H us k s E A Q R λv k' l L M=>x v k' l ?_ ?_
 ·have e2:((σ.t.set u (.list (wc w c))).set u (.list (wc (ko w c m).2.1 (ko w c m).2.2))).get u=aa (.list (wc (ko w c m).2.1 (ko w c m).2.2)):=by rw[TR.get_set g,bc rfl]
  have N:=h5.QA L e2 λF ι O=>FX O (by
   have:c+(q.length+1)<=40:=d;have:(ko w c m).2.2<=c+1:=by
    show(if w=0 then c+1 else c)<=c+1
    split<;>lia
   lia) D
  refine h5.only N λi o e=>?_;rw[TR.get_set a]at e;rw[TR.get_set e2,TR.get_set g,TR.get_set a]
  by_cases b:i=u
  ·rw[bc b]at e⊢;exact e
  ·rw[aU b]at e⊢;rw[aU b,aU b];exact e
 ·exact C▸M
theorem QD:dH 33 (only 221 Y0):=λj as σ v τ e=>by
 unfold only at e
 induction c:au j 221 with
 |false=>exact b6 (c▸e)|true=>
  rw[c]at e;obtain rfl:=ay c;obtain⟨u,m,rfl,e1⟩:=zW e;clear e;obtain⟨n,o,rfl,d,e2⟩:=yc e1
  induction o with
  |jg t=>
   induction t using a6 with
   |nil=>exact b6 e2|cons p q=>
    obtain⟨m,rfl,e3⟩:=J4 (v:=m) e2;obtain⟨hb,e4⟩:=hV (b:=au m p.1&&(cf 1 m&&cf m 13)) e3;simp only[d_,d_]at hb
    cases n with
    |zero=>exact b6 e4|succ n=>
     obtain⟨f,r⟩:=p;have g:m=f:=ay hb.1;subst g;obtain⟨rfl,rfl⟩:=av (af e4);refine QC d rfl ?_;have k:=bx hb.2.2;have:∀m,m<14->1<=m->m∈ms:=by
      have:ms=(bh 14).drop 1:=⋯;intro m a b;exact this▸aA (i:=m - 1) (by rw[nY,vo b];exact(rK 14).2 m a)
     exact this m (ew k) (bx hb.2.1)
  |_=>exact b6 e2
theorem Vd(c:33<=n)(g:dH n o):dH n (AM o):=λj as σ v τ e=>by
 unfold AM at e
 induction a:au j 221 with
 |true=>
  rw[a]at e;refine(QD j as σ v τ ?_).more c;unfold only;exact a▸e
 |false=>
  rw[a]at e
  replace e:cS (BJ j) (o j as) bW σ=aa (v,τ):=e
  induction b:BJ j with
  |true=>rw[b]at e;exact g j as σ v τ e|false=>rw[b]at e;exact b6 e
def TL:Tab:=gh (only 221 Y0)
def lS:aQ:=i5 (iM (bT 226).body)
noncomputable def DS(r:ae->ae):ae->ab (ae×Int)->ab (ae×Int):=λn q=>@eb (λι=>ae->ab (ae×Int)) (λι=>q) (λι h i=>(3,.ofNat (r i))::h (ar i)) n 0
noncomputable def J7(r:ae->ae)(q:ab (ae×Int))(k i:ae):ab (ae×Int):=@eb (λι=>ae->ab (ae×Int)) (λι=>q) (λι h i=>(3,.ofNat (r i))::h (ar i)) k i
noncomputable def X7(x i:ae):ab ae:=[aM 65 x,aM 48 (gC i 10),aM 48 (bz i 10)]
noncomputable def ZJ(i x:ae):MO:=.list (.cons (.int (.ofNat (aM 65 x))) (.cons (.int (.ofNat (aM 48 (gC i 10)))) (.cons (.int (.ofNat (aM 48 (bz i 10)))) .nil)))
def gar(r:ae->ae)(i:ae):ab MO:=(bh i).map λj=>ZJ j (r j)
def lF(r:ae->ae):ae->ae:=lQ λi=>aM 65 (r i)
def kC(n:ae):aX:=[(nm "urn",.a4 1),(nm "many",.int (.ofNat n))]
def rA(n i:ae):aX:=kC n++[(nm "at",.int (.ofNat i))]
section
variable(o0:MO)(r:ae->ae)(q:ab (ae×Int))(n:ae)
def oT(t:ab (ae×Int))(i:ae)(xs:ab MO):St:=gN ([o0,.jg t]++(gar r i++xs))
def ix:ab (ae×ae):=(bh 12).flatMap λi=>(bh 3).map λx=>(i,x)
theorem Ve:(ix.map λp=>(bg TL 14).ev (f5 lS) (ku lS) (rA n p.1) (oT o0 r ((3,.ofNat p.2)::q) p.1 []))=ix.map λp=>aa (.eN (X7 p.2 p.1),oT o0 r q p.1 [ZJ p.1 p.2]):=⋯
theorem QE:((bh 12).map λi=>oT o0 r q i [ZJ i (r i)])=(bh 12).map λi=>oT o0 r q (ar i) []:=⋯
theorem QF:((bh 13).map λn=>(qj (aC (lF r) n) (oT o0 r q n []),(oT o0 r q n [.list (aC (lF r) n)]).t.get 0,(oT o0 r q n [.list (aC (lF r) n)]).t.get 1,(oT o0 r q n [.list (aC (lF r) n)]).t.get (aM 2 n)))=
  (bh 13).map λn=>(aa (.a4 (aM 2 n),oT o0 r q n [.list (aC (lF r) n)]),aa o0,aa (.jg q),aa (.list (aC (lF r) n))):=⋯
theorem J8(i:ae)(l:V):d9 [nm "at"] (.fix l) (.int (.ofNat i)) (kC n)=aa (rA n i)/\∀j,d9 [nm "at"] (.fix l) (.int (.ofNat i)) (rA n j)=aa (rA n i):=⟨⋯,λj=>⋯⟩
end
theorem Vf{r:ae->ae}(o:n<13)(f:∀i,r i<3):∀(k m i:ae)(re:aX)(acc:V),k<m->i+k=n->(re=kC n\/∃j,re=rA n j)->il acc+k<=100->
  ∃e,gx (bg TL 14) (f5 lS) [nm "at"] [] (kK (bg TL 14) (f5 lS) (ku lS) []) m (.fix (td k i)) re acc (oT o0 r (J7 r q k i) i [])=aa ((e,m6 ((@eb (λι=>ae->ab (ab ae)) (λι=>[]) (λι b i=>X7 (r i) i::b (ar i)) k i:ab (ab ae))) acc),oT o0 r q n []):=by
 intro k
 induction k with
 |zero=>
  intro m i re acc d g a _
  induction m with
  |zero=>lia|succ m=>
   have:i=n:=by lia
   subst this;exact⟨re,vd (wK .nil .nil _).2⟩
 |succ k b=>
  intro m i re acc d g a p
  cases m with
  |zero=>lia|succ m=>
   have l:d9 [nm "at"] (.fix (td k (ar i))) (.int (.ofNat i)) re=aa (rA n i):=by
    rcases a with rfl|⟨j,rfl⟩
    ·exact(J8 n i _).1
    ·exact(J8 n i _).2 j
   have h:i∈bh 12:=da (by lia)
   have x:(i,r i)∈ix:=b7.mpr ⟨i,h,bF.mpr ⟨r i,da (f i),rfl⟩⟩;have t1:=a5 (Ve o0 r (J7 r q k (ar i)) n) x;dsimp only at t1;rw[a5 (QE o0 r (J7 r q k (ar i))) h]at t1;have c:kK (bg TL 14) (f5 lS) (ku lS) [] (rA n i) acc (oT o0 r (J7 r q (k+1) i) i [])=aa ((rA n i,V.cons (.eN (X7 (r i) i)) acc),oT o0 r (J7 r q k (ar i)) (ar i) []):=by
    show b8 ((bg TL 14).ev (f5 lS) (ku lS) (rA n i)) (λv=>eB (r5 acc) (rt (rA n i,V.cons v acc))) (oT o0 r ((3,.ofNat (r i))::J7 r q k (ar i)) i [])=_;rw[cw t1];have:r5 acc=aq:=cz (by lia)
    rw[this];rfl
   obtain⟨e,z⟩:=b m (i+1) (rA n i) (V.cons (.eN (X7 (r i) i)) acc) (je.mp d) (by lia) (.inr ⟨_,rfl⟩) (by show il acc+1+k<=100;lia)
   exact⟨e,(kV (wK _ _ _).1 l rfl c).trans z⟩
noncomputable def ZK(r:ae->ae)(k i:ae):ab (ab ae):=@eb (λι=>ae->ab (ab ae)) (λι=>[]) (λι h i=>X7 (r i) i::h (ar i)) k i
section
variable(o0:MO)(r:ae->ae)(q:ab (ae×Int))
theorem ach(σ:St):((bh 13).map λn=>la (bg TL 14) (bT 226).sc (wD lS) (kC n) σ)=(bh 13).map λn=>aa (.fix (td n 0),σ):=⋯
theorem Vg:((bh 13).map λn=>dq (ZK r n 0))=(bh 13).map λn=>aC (lF r) n:=⋯
theorem Vh(a:n<13)(b:∀i,r i<3):d' TL (bg TL 16) 226 [.a4 1,.int (.ofNat n)] (gN [o0,.jg (DS r n q)])=aa (.a4 (aM 2 n),oT o0 r q n [.list (aC (lF r) n)]):=by
 have h:=da a;have hb:(bT 226).body=[iM (bT 226).body]:=⋯;have E:qk (bT 226).sc lS=⟨λι r re=>b8 (la r (bT 226).sc (wD lS) re) λi=>b8 (gx r (f5 lS) [nm "at"] [] (kK r (f5 lS) (ku lS) []) hM i (jj [nm "at"] re) .nil) λp=>qj (lX p.2 .nil)⟩:=⋯;have R:iq (bT 226).sc (iM (bT 226).body)=⟨λι r re=>b8 (r.ev (bT 226).sc lS re) λv=>rt (.ret v,re)⟩:=⋯;have w:jj [nm "at"] (kC n)=kC n:=⋯;have l:hM=90:=⋯;obtain⟨e,z⟩:=Vf (o0:=o0) (r:=r) (q:=q) (n:=n) a b n 90 0 (kC n) .nil (by lia) (by lia) (.inl rfl) (by show 0+n<=100;lia)
 have z:gx (bg TL 14) (f5 lS) [nm "at"] [] (kK (bg TL 14) (f5 lS) (ku lS) []) 90 (.fix (td n 0)) (kC n) .nil (gN [o0,.jg (DS r n q)])=aa ((e,m6 (ZK r n 0) .nil),oT o0 r q n []):=z;have k:qj (lX (m6 (ZK r n 0) .nil) .nil) (oT o0 r q n [])=aa (.a4 (aM 2 n),oT o0 r q n [.list (aC (lF r) n)]):=by
  rw[BS,FL,a5 (Vg r) h];exact(av (a5 (QF o0 r q) h)).1
 rw[jy (f:=bT 226) (re:=kC n) (⋯) (⋯) (⋯)];have he:(bg TL 15).ev (bT 226).sc lS (kC n) (gN [o0,.jg (DS r n q)])=aa (.a4 (aM 2 n),oT o0 r q n [.list (aC (lF r) n)]):=by
  show(qk (bT 226).sc lS).f TL (bg TL 14) (kC n) (gN [o0,.jg (DS r n q)])=_;rw[E];show b8 (la (bg TL 14) (bT 226).sc (wD lS) (kC n)) (λi=>b8 (gx (bg TL 14) (f5 lS) [nm "at"] [] (kK (bg TL 14) (f5 lS) (ku lS) []) hM i (jj [nm "at"] (kC n)) .nil) λp=>qj (lX p.2 .nil)) (gN [o0,.jg (DS r n q)])=_;rw[cw (a5 (ach _) h),w,l,cw z];exact k
 have c:(bg TL 16).ex (bT 226).sc (bT 226).body (kC n) (gN [o0,.jg (DS r n q)])=aa ((.ret (.a4 (aM 2 n)),kC n),oT o0 r q n [.list (aC (lF r) n)]):=by
  rw[hb];show x3 TL (bg TL 15) (bT 226).sc [iM (bT 226).body] (kC n) (gN [o0,.jg (DS r n q)])=_;refine mF ?_;rw[R];show b8 ((bg TL 15).ev (bT 226).sc lS (kC n)) (λv=>rt (Fl.ret v,kC n)) (gN [o0,.jg (DS r n q)])=_;rw[cw he];rfl
 rw[cw c];rfl
end
theorem QG(l:ab (ab ae)):cT L Q (dq l)=aa (dq l):=by
 induction l with
 |nil=>rfl|cons a r i=>
  show dI (aa (.eN a)) (cT L Q (dq r)) V.cons=_;rw[i];rfl
theorem L7(f:ae->ae)(n:ae):mapM L Q (.list (aC f n))=aa (.list (aC f n)):=by
 show ir (cT L Q (aC f n)) MO.list=_;rw[iQ,QG];rfl
theorem gc2(g:τ.t.get 0=aa o)(g1:τ.t.get 1=aa u)(b:τ.t.get L=aa x)(a:cf 2 L=aq)(c:mapM (iP 2 [L]) j9 o=aa o)(d:mapM (iP 2 [L]) j9 u=aa u)(e:mapM (iP 2 [L]) j9 x=aa x):
  p6 2 [L] (aa (.a4 L,τ))=aa (.a4 2,[o,u],[x]):=by
 have hb:bH L 2=ai:=by
  induction h:bH L 2 with
  |false=>rfl|true=>exact er (bx a) (VV (blt h))
 have f:iP 2 [L] L=aa (.a4 2):=by
  unfold iP;rw[hb];show ir (cS (au L L) (aa 0) (ir aw ar)) _=_;rw[J2];rfl
 show cS (cS (cf 2 L) aq ai) (dI (iP 2 [L] L) (dI (@bl MO (λι=>ao (ab MO)) aw (λo=>dI (mapM (iP 2 [L]) j9 o) (@bl MO (λι=>ao (ab MO)) aw (λo=>dI (mapM (iP 2 [L]) j9 o) (aa []) cQ) (τ.t.get 1)) cQ) (τ.t.get 0))
  (@bl MO (λι=>ao (ab MO)) aw (λo=>dI (mapM (iP 2 [L]) j9 o) (aa []) cQ) (τ.t.get L)) dE) dE) aw=_
 rw[a,f,g,g1,b];show dI (aa (V.a4 2)) (dI (dI (mapM (iP 2 [L]) j9 o) (dI (mapM (iP 2 [L]) j9 u) (aa []) cQ) cQ) (dI (mapM (iP 2 [L]) j9 x) (aa []) cQ) dE) dE=_;rw[c,d,e];rfl
def aci(lab:ab ae)(σ:St)(z:V×ab (ae×MO)×ab MO):ao (V×St):=@bl (V×ab (ae×MO)×ab MO) (λι=>ao (V×St)) aw (λy=>ir (qX y.2.2 (Fb σ.t y.2.1) σ.n) λt=>(y.1,⟨t,aM σ.n (eP y.2.2)⟩))
 (dI (cT (Bt (ji lab) σ.n (eP z.2.2) lab) (Ac σ.n) z.1) (dI (Lk (mapM (Bt (ji lab) σ.n (eP z.2.2) lab) (Ac σ.n)) lab z.2.1) (Ll (mapM (Bt (ji lab) σ.n (eP z.2.2) lab) (Ac σ.n)) z.2.2) dE) dE)
theorem J9{F:OF}(hb:(dG lab aq λι r=>r7 (bH 0) r)=aq)(h:Aj lab=aq)(e:dI (qp (cT (dW lab) eA) as) (i6 (mapM (dW lab) eA) σ.t lab) dE=aa p):
  j_ lab F as σ=@bl (V×ab (ae×MO)×ab MO) (λι=>ao (V×St)) aw (aci lab σ) (F p.1 p.2):=by
 unfold j_;rw[hb,h,e];rfl
theorem Vi(o0:MO)(r:ae->ae)(q:ab (ae×Int)):((bh 13).map λn=>aci [0,1] (gN [o0,.jg (DS r n q)]) (.a4 2,[(1,.jg q)],[.list (aC (lF r) n)]))=(bh 13).map λn=>aa (.a4 2,gN [o0,.jg q,.list (aC (lF r) n)]):=⋯
theorem Vj{r:ae->ae}(h:n<13)(a:∀i,r i<3):Good 66 226 [.a4 1,.int (.ofNat n)] (gN [o0,.jg (DS r n q)]) (.a4 2) (gN [o0,.jg q,.list (aC (lF r) n)]):=by
 obtain⟨o',c,d⟩:=FT (lab:=[0,1]) o0;have e1:dI (qp (cT (dW [0,1]) eA) [.a4 1,.int (.ofNat n)]) (i6 (mapM (dW [0,1]) eA) (gN [o0,.jg (DS r n q)]).t [0,1]) dE=aa ([.a4 1,.int (.ofNat n)],[o',.jg (DS r n q)]):=by
  show dI (aa [V.a4 1,.int (.ofNat n)]) (dI (mapM (dW [0,1]) eA o0) (aa [.jg (DS r n q)]) cQ) dE=_;rw[c];rfl
 have g:=kc (n:=33) (b:=33) (N:=16) ⟨aF _,by decide⟩ QD (Vh o' r q h a)
 obtain⟨_,z⟩:=av (a5 (QF o' r q) (da h));obtain⟨e,z⟩:=av z;obtain⟨z1,z2⟩:=av z;refine kR (lab:=[0,1]) (ups:=[(1,.jg q)]) (nw:=[.list (aC (lF r) n)]) (ks:=[aM 2 n]) e1 (t0:=Ge [o',.jg (DS r n q)]) (⋯) g (v:=.a4 2) (gc2 e z1 z2 (cz (bp 2 n)) (d _) rfl (L7 _ _)) ?_;rw[J9 (p:=([.a4 1,.int (.ofNat n)],[o',.jg (DS r n q)])) rfl rfl e1];exact a5 (Vi o0 r q) (da h)
def nxW(w:Int)(c:Int):Int:=Int.add (Int.mul w 1019) (imod c (xX 10 45))
def xN(l:ab Int)(w:Int):Int:=l.foldl nxW w
def pN:cF:=iM ((bT 220).body.drop 1)
def Vk:ab cF:=vE pN
def qc(w:Int):aX:=[(nm "script",.a4 0),(nm "whole",.int w)]
def sY(w c:Int):aX:=qc w++[(nm "cell",.int c)]
def sU(is:ab Int)(xs:ab MO):St:=gN (.list (cu (is.map V.int))::xs)
section
variable(w c:Int)(σ:St)
theorem Vl:(iq (bT 220).sc (iM (bT 220).body)).f T0 (bg T0 12) [(nm "script",.a4 0)] σ=aa ((.next,qc 29),σ):=⋯
theorem ZL:(bg T0 12).ex (bT 220).sc Vk (sY w c) σ=aa ((.next,sY (nxW w c) c),σ):=⋯
theorem QH(i:ae)(d:Int):d9 [nm "cell"] (.kx 1 i) (.int c) (qc w)=aa (sY w c)/\d9 [nm "cell"] (.kx 1 i) (.int c) (sY w d)=aa (sY w c):=⟨⋯,⋯⟩
theorem ZM(o x:MO)(re:aX)(h:re=qc w\/∃c,re=sY w c):(iq (bT 220).sc (iM ((bT 220).body.drop 2))).f T0 (bg T0 12) re (gN [o,x])=aa ((.ret (.a4 2),re),gN [o,x,.list (.cons (.int w) (.cons (.int 0) .nil))]):=by
 rcases h with rfl|⟨c,rfl⟩<;>kernel_rfl
end
theorem FY{α:Type}{c d:Rm α}{σ:St}{p:α×St}(h:c σ=aa p):alt c d σ=aa p:=by unfold alt;rw[h]
theorem FZ{α:Type}{c d:Rm α}(h:c σ=aw):alt c d σ=d σ:=by unfold alt;rw[h]
theorem zX:∀(k:ae)(d:ab V),A1 k (cu d)=cu (d.take k)
 |0,d=>by cases d<;>rfl|k+1,[]=>rfl|k+1,a::r=>by
  show V.cons a (A1 k (cu r))=V.cons a (cu (r.take k));rw[zX k r]
theorem L8(h:0<=w):0<=nxW w c:=by
 have a:0<=imod c (xX 10 45):=by
  induction c with
  |ofNat m=>exact c9 _|negSucc m=>
   show 0<=Int.subNatNat (xX 10 45) (ar (m% xX 10 45));rw[Int.subNatNat_eq_coe];have:m% xX 10 45<xX 10 45:=Rz _ (by decide)
   lia
 show 0<=w*1019+imod c (xX 10 45);lia
theorem zY:∀(l:ab Int){w:Int},0<=w->0<=xN l w
 |[],a,h=>h|c::l,w,h=>zY l (w:=nxW w c) (L8 h)
theorem ZN{ls:ab Int}{σ:St}(g:σ.t.get 1=aa (.list (cu (ls.map V.int)))):∀(k m i:ae)(re:aX)(w:Int),k<m->i+k=ls.length->(re=qc w\/∃c,re=sY w c)->
  ∃r,(r=qc (xN (ls.drop i) w)\/∃c,r=sY (xN (ls.drop i) w) c)/\h6 (bg T0 12) (bT 220).sc [nm "cell"] Vk m (.kx 1 i) re σ=aa ((.next,r),σ):=by
 intro k
 induction k with
 |zero=>
  intro m i re w b f h
  induction m with
  |zero=>lia|succ m=>
   have e:ls.drop i=[]:=ig (iz (id (Eq.symm f)));refine⟨re,by rw[e];exact h,rS ?_⟩
   rw[lP g,ie,c_ (by simp;lia)];rfl
 |succ k j=>
  intro m i re w b f h
  induction m with
  |zero=>lia|succ m=>
   have a:i<ls.length:=by lia
   have n:fP σ (.kx 1 i)=aa (aa (.int ls[i],.kx 1 (ar i))):=by
    rw[lP g,ie,cL,az a];rfl
   have l:d9 [nm "cell"] (.kx 1 (ar i)) (.int ls[i]) re=aa (sY w ls[i]):=by
    rcases h with rfl|⟨d,rfl⟩
    ·exact(QH w ls[i] _ 0).1
    ·exact(QH w ls[i] _ d).2
   obtain⟨r,q,z⟩:=j m (i+1) (sY (nxW w ls[i]) ls[i]) (nxW w ls[i]) (je.mp b) (by lia) (.inr ⟨_,rfl⟩)
   rw[jo a];exact⟨r,q,(pL n l (ZL w ls[i] σ)).trans z⟩
theorem Vm(is:ab Int):d' T0 (bg T0 13) 220 [.a4 0] (sU is [])=aa (.a4 2,sU is [.list (cu ((is.take 30).map V.int)),.list (.cons (.int (xN (is.take 30) 29)) (.cons (.int 0) .nil))]):=by
 have hb:(bT 220).body=[iM (bT 220).body,pN,iM ((bT 220).body.drop 2)]:=⋯;have A:iq (bT 220).sc pN=⟨λι r re=>b8 (la r (bT 220).sc (i5 pN) re) λi=>h6 r (bT 220).sc [nm "cell"] Vk hM i re⟩:=⋯;have l:hM=90:=⋯;have g:(sU is [.list (cu ((is.take 30).map V.int))]).t.get 1=aa (.list (cu ((is.take 30).map V.int))):=⋯;have I:la (bg T0 12) (bT 220).sc (i5 pN) (qc 29) (sU is [])=b8 (Kk (.a4 0) .none (.int (.ofNat 30))) Km (sU is []):=⋯;have h:la (bg T0 12) (bT 220).sc (i5 pN) (qc 29) (sU is [])=aa (.kx 1 0,sU is [.list (cu ((is.take 30).map V.int))]):=by
  have m:qj (A1 30 (cu (is.map V.int))) (sU is [])=aa (.a4 1,sU is [.list (cu ((is.take 30).map V.int))]):=by
   rw[zX,<-ab.map_take];have:r5 (cu ((is.take 30).map V.int))=aq:=by
    show cf (il _) 4096=aq;rw[tA];exact cz (by rw[b9,hK];exact bq (Xj _ _) (by decide))
   unfold qj;rw[this];kernel_rfl
  have s:Kk (.a4 0) .none (.int (.ofNat 30)) (sU is [])=aa (.a4 1,sU is [.list (cu ((is.take 30).map V.int))]):=by
   unfold Kk;rw[FZ rfl,FZ rfl];refine FY ?_;exact FY (c:=ja .none (ei (.int (.ofNat 30)) λk=>qj (A1 k (cu (is.map V.int))))) m
  rw[I,cw s];kernel_rfl
 obtain⟨e,q,z⟩:=ZN (ls:=is.take 30) g (is.take 30).length 90 0 (qc 29) 29 (by rw[hK];exact cD (Xj _ _) (by decide)) (dY (F_ 30 is).length) (.inl rfl)
 rw[ab.drop_zero]at q;have a:(iq (bT 220).sc pN).f T0 (bg T0 12) (qc 29) (sU is [])=aa ((.next,e),sU is [.list (cu ((is.take 30).map V.int))]):=by
  rw[A];show b8 (la (bg T0 12) (bT 220).sc (i5 pN) (qc 29)) (λi=>h6 (bg T0 12) (bT 220).sc [nm "cell"] Vk hM i (qc 29)) (sU is [])=_;rw[cw h,l];exact z
 rw[jy (f:=bT 220) (re:=[(nm "script",.a4 0)]) (⋯) (⋯) (⋯)];have b:(bg T0 13).ex (bT 220).sc (bT 220).body [(nm "script",.a4 0)] (sU is [])=aa ((.ret (.a4 2),e),sU is [.list (cu ((is.take 30).map V.int)),.list (.cons (.int (xN (is.take 30) 29)) (.cons (.int 0) .nil))]):=by
  rw[hb];show x3 T0 (bg T0 12) (bT 220).sc [iM (bT 220).body,pN,iM ((bT 220).body.drop 2)] [(nm "script",.a4 0)] (sU is [])=_;rw[gm (Vl (sU is [])),gm a];exact mF (ZM _ _ _ e q)
 rw[cw b];rfl
theorem L9(l:ab Int):cT L Q (cu (l.map V.int))=aa (cu (l.map V.int)):=by
 induction l with
 |nil=>rfl|cons a r i=>
  show dI (aa (.int a)) (cT L Q (cu (r.map V.int))) V.cons=_;rw[i];rfl
theorem BZ(l:ab Int):mapM L Q (.list (cu (l.map V.int)))=aa (.list (cu (l.map V.int))):=by
 show ir (cT L Q (cu (l.map V.int))) MO.list=_;rw[L9];rfl
theorem QI(is:ab Int):Good 35 220 [.a4 0] (sU is []) (.a4 1) (sU is [.list (.cons (.int (xN (is.take 30) 29)) (.cons (.int 0) .nil))]):=by
 have g:=kc (n:=0) (b:=8) (N:=13) ⟨bj _,aF _⟩ eQ (Vm is);have e1:dI (qp (cT (dW [0]) eA) [.a4 0]) (i6 (mapM (dW [0]) eA) (sU is []).t [0]) dE=aa ([.a4 0],[.list (cu (is.map V.int))]):=by
  show dI (aa [V.a4 0]) (dI (mapM (dW [0]) eA (.list (cu (is.map V.int)))) (aa []) cQ) dE=_;rw[BZ];rfl
 refine kR (lab:=[0]) (ups:=[]) (nw:=[.list (.cons (.int (xN (is.take 30) 29)) (.cons (.int 0) .nil))]) (ks:=[2]) e1 (t0:=Ge [.list (cu (is.map V.int))]) (⋯) g (v:=.a4 1) ?_ ?_
 ·show dI (aa (V.a4 1)) (dI (dI (mapM (iP 1 [2]) j9 (.list (cu (is.map V.int)))) (aa []) cQ) (aa [MO.list (.cons (.int (xN (is.take 30) 29)) (.cons (.int 0) .nil))]) dE) dE=_
  rw[BZ];rfl
 ·rw[J9 (p:=([.a4 0],[.list (cu (is.map V.int))])) rfl rfl e1];kernel_rfl
def Dw(is:ab Int):ae:=(xN (is.take 30) 29).toNat
theorem Vn(h:ti (Dw is) 0 t)(d:t.length<=40):Good 35 220 [.a4 0] (sU is []) (.a4 1) (sU is [.jg t]):=λG H us k a S A Q R q=>
 QI is G H us k a S A Q R λu k' l b r=>q u k' l (by
  have e:(.list (.cons (.int (xN (is.take 30) 29)) (.cons (.int 0) .nil)):MO)=.list (wc (Dw is) 0):=by
   have:xN (is.take 30) 29=cR (Dw is):=(Int.toNat_of_nonneg (zY _ (by decide))).symm
   unfold wc;rw[this];rfl
  have g:(sU is [.list (.cons (.int (xN (is.take 30) 29)) (.cons (.int 0) .nil))]).t.get 1=aa (.list (wc (Dw is) 0)):=by rw[<-e];kernel_rfl
  have c:=h5.QA b (o' :=.jg t) g λp ι z=>FX z (by lia) h
  exact c) r
theorem draw(w c m:ae)(a:0<m):∃r b e,r<m/\∀t,ti b e t->ti w c ((m,.ofNat r)::t):=⟨(ko w c m).1,(ko w c m).2.1,(ko w c m).2.2,Rz _ a,λt h=>⟨rfl,h⟩⟩
theorem B0{r r':ae->ae}(q:ab (ae×Int)):∀(k i:ae),(∀j,i<=j->r j=r' j)->J7 r q k i=J7 r' q k i
 |0,i,b=>rfl|k+1,i,h=>by
  show(3,cR (r i))::J7 r q k (ar i)=(3,cR (r' i))::J7 r' q k (ar i);rw[h i (aF i),B0 q k (ar i) λj a=>h j (eW a)]
theorem draws(n:ae):∀(w c i:ae),∃(r:ae->ae)(a b:ae),(∀j,r j<3)/\∀t,ti a b t->ti w c (J7 r t n i):=by
 induction n with
 |zero=>intro w c i;exact⟨λι=>0,w,c,λι=>ed 2,λt h=>h⟩|succ n e=>
  intro w c i;refine ck λk=>?_;obtain⟨x,w1,f,g,l⟩:=draw w c 3 (ed 2);obtain⟨r,m,o,p,q⟩:=e w1 f (ar i);refine k ?_;refine⟨λj=>if j=i then x else r j,m,o,λj=>?_,λt s=>?_⟩
  ·show(if j=i then x else r j)<3
   split
   ·exact g
   ·exact p j
  ·show ti w c ((3,cR (if i=i then x else r i))::J7 (λj=>if j=i then x else r j) t n (ar i))
   rw[bc rfl,(B0 t n (ar i) λj u=>aU (ae.ne_of_lt' u))];exact l _ (q t s)
set_option genInjectivity false in
structure Dr(w:ae) where
 a:ae
 way:ae
 wd:ae
 hk:ae
 st:ae
 x:ae
 m:ae
 r:ae->ae
 p:ae×ae
 e:ae
 h2:(a,wd,hk,st)∈l2
 h3:(ar wd,x,m)∈l3
 hw:way∈bh 3
 hr:∀i,r i<3
 hp:p∈wF way
 hn:nP p=q_ m
 he:e∈bh 9
 ht:ti w 0 (FK a way wd hk st x m (DS r (q_ m) (qb way (q_ m) e p)))
theorem ZO(h:m<9):q_ m∈i8:=by
 have e:((bh 9).map λm=>i8[m]?)=(bh 9).map λm=>aa (q_ m):=⋯;exact aA (a5 e (da h))
noncomputable def j0(s:ae×ae)(m:ae):ae:=(ko s.1 s.2 m).1
noncomputable def aeB(s:ae×ae)(m:ae):ae×ae:=(ko s.1 s.2 m).2
def aeE(s:ae×ae)(t:ab (ae×Int)):Prop:=ti s.1 s.2 t
theorem j1(s:ae×ae)(h:0<m):j0 s m<m:=Rz _ h
theorem tf(h:aeE (aeB s m) t):aeE s ((m,.ofNat (j0 s m))::t):=⟨rfl,h⟩
section
variable(w:ae)
noncomputable def aeI:ae:=j0 (w,0) 3
noncomputable def aeQ:ae×ae:=aeB (w,0) 3
noncomputable def aeR:ae:=j0 (aeQ w) 3
noncomputable def aeS:ae×ae:=aeB (aeQ w) 3
noncomputable def aeX:ae:=j0 (aeS w) 2
noncomputable def aeN:ae×ae:=aeB (aeS w) 2
noncomputable def aeO:ae:=cS (au (aeI w) 1) (j0 (aeN w) 3) 0
noncomputable def aeT:ae×ae:=cS (au (aeI w) 1) (aeB (aeN w) 3) (aeN w)
noncomputable def aeY:ae:=j0 (aeT w) 2
noncomputable def aeU:ae×ae:=aeB (aeT w) 2
noncomputable def aeZ:ae:=j0 (aeU w) 2
noncomputable def aeP:ae×ae:=aeB (aeU w) 2
noncomputable def aeV:ae:=j0 (aeP w) 9
noncomputable def aeW:ae×ae:=aeB (aeP w) 9
end
theorem aeu(b:aE)(h:aeE (aeB (cS b (aeB s 3) s) 2) t):aeE s (cS b ((3,.ofNat (cS b (j0 s 3) 0))::(2,.ofNat (j0 (cS b (aeB s 3) s) 2))::t) ((2,.ofNat (j0 (cS b (aeB s 3) s) 2))::t)):=by
 induction b with
 |true=>exact tf (tf h)|false=>exact tf h
theorem aev(w:ae):aeO w<3:=by
 unfold aeO
 induction au (aeI w) 1 with
 |true=>exact j1 _ (ed 2)|false=>exact ed 2
theorem aeo(s:ae×ae)(way:ae)(hsz:n∈i8):∃p e,p∈wF way/\nP p=n/\e<9/\aeE s (qb way n e p):=by
 unfold qb wF
 induction au way 0 with
 |true=>exact⟨(n,0),j0 s 9,bF.mpr ⟨_,hsz,rfl⟩,rfl,j1 _ (ed 8),tf (show aeE _ [] from trivial)⟩|false=>
  have h:=j1 s (ed n);exact⟨(j0 s (ar n),mw n (j0 s (ar n))),j0 (aeB s (ar n)) 9,b7.mpr ⟨_,hsz,bF.mpr ⟨_,da h,rfl⟩⟩,vo (ey h),j1 _ (ed 8),tf (tf (show aeE _ [] from trivial))⟩
theorem aer(h:n<2):ar n∈[1,2]:=by
 have:((bh 2).map λn=>[1,2][n]?)=(bh 2).map λn=>aa (ar n):=⋯;exact aA (a5 this (da h))
theorem acj(w:ae):iA (Dr w):=by
 have h:=j1 (aeP w) (ed 8);obtain⟨r,a,c,b,t⟩:=draws (q_ (aeV w)) (aeW w).1 (aeW w).2 0;obtain⟨p,e,hp,n,he,f⟩:=aeo (a,c) (aeR w) (ZO h);exact⟨⟨aeI w,aeR w,aeX w,aeO w,aeY w,aeZ w,aeV w,r,p,e,
  b7.mpr ⟨_,da (j1 _ (ed 2)),b7.mpr ⟨_,da (j1 _ r3),b7.mpr ⟨_,da (aev w),bF.mpr ⟨_,da (j1 _ r3),rfl⟩⟩⟩⟩,
  b7.mpr ⟨_,aer (j1 _ r3),b7.mpr ⟨_,da (j1 _ r3),bF.mpr ⟨_,da h,rfl⟩⟩⟩,
  da (j1 _ (ed 2)),b,hp,n,da he,show aeE (w,0) _ from tf (tf (tf (aeu (au (aeI w) 1) (tf (tf (t _ f))))))⟩⟩
section
variable{w:ae}(d:Dr w)
def Dr.c:Cfg:=cfgOf d.a d.wd d.hk d.st
theorem Dr.cm:d.c∈fL:=by
 exact aA (a5 (⋯:(l2.map λq=>fL[aM (qG q.1 8 λa=>qG a (cS (bH 0 q.2.2.1) 4 0) λι=>12) (aM (bP 2 q.2.1) q.2.2.2)]?)=l2.map λq=>aa (cfgOf q.1 q.2.1 q.2.2.1 q.2.2.2)) d.h2)
theorem Dr.nm:nP d.p∈i8:=by
 rw[d.hn];obtain⟨_,_,h⟩:=b7.mp d.h3;obtain⟨_,_,h⟩:=b7.mp h;obtain⟨m,a,h⟩:=bF.mp h
 cases h
 exact aA (a5 (⋯:((bh 9).map λm=>i8[m]?)=(bh 9).map λm=>aa (q_ m)) a)
theorem Dr.pm:d.p∈bu:=by
 have hp:=d.hp;unfold wF at hp
 induction h:au d.way 0 with
 |true=>
  rw[h]at hp;obtain⟨n,a,e⟩:=bF.mp (show d.p∈i8.map λn=>(n,0) from hp)
  refine e▸?_;have:∀n∈i8,(n,0)∈bu:=by decide
  exact this n a
 |false=>rw[h]at hp;exact hp
theorem Vo(h:n∈i8):n∈kq c\/n∈PR c:=by
 unfold kq PR
 induction au (lim c) 9 with
 |true=>
  have:∀n∈i8,n∈[1,0,2,3,5,7,9]\/n∈[10,12]:=by decide
  exact this n h
 |false=>exact .inl h
end
theorem ZP(P:bZ):RN P 3 pb.name=aa (.ref (oH 229))/\fA pb.name=aa (enc pb.name):=⟨⋯,⋯⟩
def sS(is:ab Int):St:=⟨.node (.list (cu (is.map V.int))) .nil .nil,1⟩
set_option backward.match.sparseCases false in
def aeJ(P:bZ)(h:bJ)(v:ag):Iu->Prop
 |.int i=>∃t,v=.int i t|.list xs=>∃a vs,v=.ref a/\h.get? a=aa {cls:=.type "list",data:=.seq (xu vs)}/\xK P h vs xs|_=>True
theorem B9(x:Well P h v d):aeJ P h v d:=by
 induction x using Well.casesOn with
 |int i t=>exact⟨t,rfl⟩|list e x=>exact⟨_,_,rfl,e,x⟩|_=>exact trivial
theorem uu(x:xK P h vs ds):ds=[]->vs=[]:=by
 induction x using xK.casesOn with
 |nil=>exactλe=>rfl|cons=>exactλe=>er e (ab.cons_ne_nil _ _)
theorem aek(x:xK P h vs [.list xs]):∃l us,vs=[.ref l]/\h.get? l=aa {cls:=.type "list",data:=.seq (xu us)}/\xK P h us xs:=by
 obtain⟨v,q,rfl,a,b⟩:=wellAll_cons_inv x;obtain⟨l,us,rfl,e,z⟩:=B9 a;exact⟨l,us,aY _ (uu b rfl),e,z⟩
theorem aee(r:ReadsAllW R c h (.ref l::vs) (.list xs::ds) as):l∈as:=by
 obtain⟨b,v,d,e,e1,rfl,a,_⟩:=readsAllW_cons_inv r;obtain⟨f,_,g,e2,_,_,rfl⟩:=readsW_list_inv a;exact MN ((c7 e1).1.trans e2)▸b0 _ ax
theorem B1{is:ab Int}:∀{vs:ab ag},xK P h vs (is.map .int)->gi X ρ h (cu (is.map V.int)) vs/\vs.length=is.length:=by
 induction is with
 |nil=>exactλ{vs}r=>uu r rfl▸⟨⟨trivial,rfl⟩,rfl⟩|cons i is c=>
  intro vs r;obtain⟨v,vs,rfl,a,b⟩:=wellAll_cons_inv r;obtain⟨t,rfl⟩:∃t,v=.int i t:=B9 a;have z:=c b;exact⟨⟨z.1.lst,_,_,rfl,⟨t,rfl⟩,z.1.rep⟩,aY (· +1) z.2⟩
theorem QJ:gi X [(l,l)] h (cu [.a4 0]) [.ref l]:=⟨trivial,_,_,rfl,⟨(l,l),rfl,rfl⟩,rfl⟩
def Fin(n j:ae)(as:ab V)(σ:St):Prop:=∀(G:Gm),HX G.w G.X->∀(us:ab ag)(k:Kf),pj G k as us->SR G k σ->∀(A:aW),el A n->A.frames=aa []->∀(Q:c8->ah->Prop),
 (∀k',Le k k'->vF k'.h->Q (.ok (.ret (.bool aq))) (sh G.b k'))->dg (Md G.w) A (.call (.ref (G.X.jV j)) ⟨us,[]⟩) Q (sh G.b k)
theorem Good.fin(g:Good n j as σ (.bool aq) τ):Fin n j as σ:=λG H us k a S A R ι Q q=>g G H us k a S A Q R λu k' l S' r=>by
 have r:u=.bool aq:=r;subst r;exact q k' l S'.pl
theorem L_(f:Fin n j as σ)(H:HX w X)(r:gi X ρ s.heap (cu as) us)(S:h5 X w.params ρ σ s.heap)(a:el A n)(hf:A.frames=aa []){Q:c8->ah->Prop}(b:∀k' :Kf,bY ρ s.heap k'.ρ k'.h []->vF k'.h->Q (.ok (.ret (.bool aq))) (sh s k')):dg (Md w) A (.call (.ref (X.jV j)) ⟨us,[]⟩) Q s:=f ⟨X,w,s⟩ H us ⟨ρ,s.heap,s.toks⟩ r S A a hf Q b
set_option tactic.hygienic true in
theorem F0(good:Fin 600 229 [.a4 0] (sS is))(c:∀b o,(H.Internal.iZ w.params).get? b=aa o->s.heap.get? b=aa o)(a:s.heap.get? l=aa {cls:=.type "list",data:=.seq vs.toArray})(v:vs.length<=63)(f:gi ⟨hB w.params,λι=>.none,oH,qW,mr⟩ [(l,l)] s.heap (cu (is.map V.int)) vs)(cP:(H.Internal.iZ w.params).get? l=aw)(A:aW)(g:el A 600)(hf:A.frames=aa [])(Q:c8->ah->Prop)(k:∀k' :Kf,bY [(l,l)] s.heap k'.ρ k'.h []->vF k'.h->Q (.ok (.ret (.bool aq))) (sh s k')):dg (Md w) A (.call (.ref (oH 229)) ⟨[.ref l],[]⟩) Q s:=by
 have S:h5 ⟨hB w.params,λι=>.none,oH,qW,mr⟩ w.params [(l,l)] (sS is) s.heap:=by
  have d:∀b o,(hB w.params).get? b=aa o->s.heap.get? b=aa o:=λb o e=>c b o (Ht e);have cP:(hB w.params).get? l=aw:=by
   induction q:(hB w.params).get? l with
   |none=>rfl|some o=>exact nomatch cP.symm.trans (Ht q)
  refine⟨d,rfl,λp hp=>?_,qd _ _,λp hp us=>?_,λn o e=>?_,(zg w.params).1.mono (CK.of c),λp hp=>?_⟩
  ·rw[aJ]at hp;subst hp
   exact⟨⟨cP,cP⟩,⟨_,a⟩,_,a⟩
  ·rw[aJ]at hp;subst hp
   have: ¬s.heap.IsTuple l us:=λ⟨o,m,t,_⟩=>by cases a.symm.trans m;simp at t
   exact⟨this,this⟩
  ·have e:(TR.node (.list (cu (is.map V.int))) .nil .nil).get n=aa o:=e
   rw[TR.jw]at e
   split at e
   ·rename_i u
    subst u
    cases e
    exact⟨(l,l),rfl,rfl,vs,0,by lia,a,f.lst,f.rep⟩
   ·have z:∀(i:ae),TR.nil.get i=aw:=λι=>rfl
    split at e<;>exact nomatch (z _).symm.trans e
  ·rw[aJ]at hp;subst hp
   have ne:l≠t5:=λe=>by
    have:=c _ _ (zg w.params).2.2
    cases (e▸a).symm.trans this
   have nf:=eO a λι q=>nomatch q;exact⟨⟨ne,ne⟩,nf,nf⟩
 have r:=QJ (X:=⟨hB w.params,λι=>.none,oH,qW,mr⟩) (h:=s.heap) (l:=l);exact L_ (X:=⟨hB w.params,λι=>.none,oH,qW,mr⟩) (w:=w) (j:=229) (us:=[.ref l]) (ρ:=[(l,l)]) good (HX.mk (X:=⟨hB w.params,λι=>.none,oH,qW,mr⟩) (VZ (hB w.params)) (VZ oH) (VZ qW) (VZ mr)) r S g hf k
theorem ack:el Gk 600:=⟨⋯,bx (⋯),bx (⋯)⟩
theorem Vp(args:ab Iu)(cls:ExcName):pb.toRowW.claim.raises args cls=ai:=⋯
theorem acm(args:ab Iu):pb.toRowW.claim.post args (.bool aq) args=aq:=⋯
set_option maxHeartbeats 8000000 in
set_option tactic.hygienic true in
theorem Il(f:∀is:ab Int,is.length<=63->Fin 600 229 [.a4 0] (sS is)):g7.Holds:=by
 w_on
 refine holds_law H.Internal.Ki λj=>?_;refine Sv (q:=H.Internal.ym) (loose:=H.Internal.Cf) (Xt:=H.Internal.xt0) (XP:=XT) H.Internal.aaq (λι ι=>trivial) (λι ι ι ι ι=>trivial) aaE hp_ hk_ (λι ι=>recFacts_nil rfl) rfl j ok_ hb_ hw_ λw u s mg a args vs as y m hf L r c=>?_;obtain⟨is,rfl,n⟩:=Sw r;have good:=f is n;obtain⟨l,vs,rfl,k,i⟩:=aek c;have d:∀b o,(H.Internal.iZ w.params).get? b=aa o->s.heap.get? b=aa o:=λb o e=>L.keeps b o (by rw[y];exact e)
 have t:a=oH 229:=by
  obtain⟨l1,l2⟩:=ZP w.params;obtain⟨v,s3⟩:=uR (P:=w.params) (a:=3) (by decide)
  have x:=v.keeps λb o e=>d b o (Ht e);have e:aa (cX a)=aa (.ref (oH 229)):=hf.symm.trans ((x.agree m _).symm.trans (((lg s3).2 l2).trans l1));exact MN (af e)
 subst t;obtain⟨A,C⟩:=B1 (P:=w.params) (h:=s.heap) (X:=⟨hB w.params,λι=>.none,oH,qW,mr⟩) (ρ:=[(l,l)]) i;have cP:(H.Internal.iZ w.params).get? l=aw:=by
  rw[<-y];exact cO (L.within.2.2 _ (aee L.reads)).1
 have hp:pb.toRowW.prog=PW:=⋯;rw[hp];refine ib (F0 good d k (C▸n) A cP Gk ack rfl _ λk' g pl=>?_);refine⟨.inl ⟨.bool aq,.bool aq,[],rfl,Vp _,.bool aq,acm _,λι=>⟨B',λa t=>nomatch t⟩⟩,⟨λb o e=>?_,g.live⟩,rfl,AllBare.of_eq L.gens⟩
 by_cases q:b=t5
 ·subst q
  have t0:=(zg w.params).2.keeps d;obtain⟨ps,_,t1,_⟩:=pl
  cases e.symm.trans t0.2
  exact .inr (.inl ⟨t0.isCodeTable,rfl,#[],ps,rfl,t1.2.trans (by rw[Array.empty_append])⟩)
 ·exact .inl (g.mq b o e (λz=>z.elim q λ⟨p,hp,_⟩=>nomatch hp) λz=>nomatch z)
theorem Ma(h:r∈bC f n):∃i,r=og f i:=by
 have main:∀(n k:ae),r∈vb f n k->∃i,r=og f i:=by
  intro n
  induction n with
  |zero=>intro k h;exact sr h|succ n a=>
   intro k h;rcases aG.mp (show r∈og f k::vb f n (ar k) from h) with e|h
   ·exact⟨k,e⟩
   ·exact a _ h
 exact main n 0 h
theorem WT{f:ae->ae}(h:∀i,∃x,x<3/\f (bP 3 i)=aM 65 x)(n:ae):Hd (bC f n):=λr a=>by
 obtain⟨i,rfl⟩:=Ma a;obtain⟨x,c,e⟩:=h i;have:dK (og f i)=bz (f (bP 3 i)) 256:=rfl;rw[this,e];have:x=0\/x=1\/x=2:=by lia
 rcases this with rfl|rfl|rfl
 ·exact .inl rfl
 ·exact .inr (.inl rfl)
 ·exact .inr (.inr rfl)
theorem WU{r:ae->ae}(h:∀i,r i<3)(i:ae):∃x,x<3/\lF r (bP 3 i)=aM 65 x:=by
 refine⟨r i,h i,?_⟩;unfold lF lQ;rw[show bz (bP 3 i) 3=0 from xS 3 i,show gC (bP 3 i) 3=i from qv i (by decide)]
 rfl
theorem ZQ{f:ae->ae}(h:∀i,∃x,x<3/\f (bP 3 i)=aM 65 x)(c i:ae):∃x,x<3/\oh f c (bP 3 i)=aM 65 x:=by
 obtain⟨x,a,e⟩:=h (c+i);refine⟨x,a,?_⟩;show f (3*c+3*i)=_;rw[<-ae.mul_add];exact e
noncomputable def strN(l:ab V):ae:=dG l 0 λv ι=>V.casesOn v 0 (λι=>0) (λι=>0) (λs=>dG s 0 λc ι=>c) (λι=>0) 0 (λι ι=>0) (λι=>0) (λι=>0) (λι=>0) (λι=>0) (λι=>0) (λι=>0)
noncomputable def ad9(l:ab V):ae:=dG l 0 λv ι=>V.casesOn v 0 (λι=>0) (λι=>0) (λι=>0) (λι=>0) 0 (λι ι=>0) (λι=>0) (λn=>n) (λι=>0) (λι=>0) (λι=>0) (λι=>0)
noncomputable def aea(l:ab V):ae:=dG l 0 λv ι=>V.casesOn v 0 (λι=>0) (λι=>0) (λι=>0) (λι=>0) 0 (λι ι=>0) (λt=>pairD t 0 λι r=>pairD r 0 λs ι=>strN [s]) (λn=>n) (λι=>0) (λι=>0) (λι=>0) (λι=>0)
def WV(j:ae)(as:ab V):ae:=aM (bP 1000000 j) (cS (au j 123) (strN (as.drop 1)) (cS (au j 163) (aea (as.drop 1)) (cS (au j 227) (ad9 as) 0)))
section
variable{is:ab Int}(d:Dr (Dw is))(F G:ae->ae)(b:aE)(τ:St)
def lj(is:ab Int):MO:=.list (cu (is.map V.int))
def Dr.f{w:ae}(d:Dr w):ae->ae:=lF d.r
def Dr.asc{w:ae}(d:Dr w):aE:=au d.x 0
def Dr.T4{w:ae}(d:Dr w):ab (ae×Int):=DS d.r (nP d.p) (qb d.way (nP d.p) d.e d.p)
def RQ:ab Cl:=[⟨220,[.a4 0],sU is [],.a4 1,sU is [.jg (FK d.a d.way d.wd d.hk d.st d.x d.m d.T4)]⟩,
 ⟨226,[.a4 1,.int (.ofNat (nP d.p))],gN [lj is,.jg d.T4],.a4 2,gN [lj is,.jg (qb d.way (nP d.p) d.e d.p),.list (aC d.f (nP d.p))]⟩,
 ⟨225,BP d.c,gN (o6 (lj is) (qE d.e) d.p d.f d.f (oh d.f d.p.1)),.a4 56,nz d.c d.f d.p (lj is) (qE d.e) (cM d.c)⟩,
 ⟨164,BQ d.c 56,nz d.c d.f d.p (lj is) (qE d.e) (cM d.c),.none,nz d.c d.f d.p (lj is) (qE d.e) (ni d.c)⟩]
def RS:ab Cl:=[⟨123,[.a4 54,.str wi,.str mC,.a4 (lA d.way)],wB d.c d.f F G d.p (lj is) (ni d.c) d.way (qE d.e),.none,Gf d.c d.f F G d.p (lj is) (ni d.c) d.way (qE d.e)⟩,
 ⟨123,[.a4 54,.str zr,.str mC,.a4 (lB d.way)],Gf d.c d.f F G d.p (lj is) (ni d.c) d.way (qE d.e),.none,Uv d.c d.f F G d.p (lj is) (ni d.c) d.way (qE d.e)⟩,
 ⟨123,UL d.way,H4 d.c d.f F G d.p (lj is) (ni d.c) d.way d.e [],.none,Gg d.c d.f F G d.p (lj is) (ni d.c) d.way d.e⟩]
def Vq:Cl:=⟨228,[.a4 56,gk d.way (.bool d.asc)],Gg d.c d.f F G d.p (lj is) (ni d.c) d.way d.e,.bool b,τ⟩
def Cl.ok(c:Cl):Prop:=Good 500 c.j c.as c.σ c.v c.τ
def Cl.at_(c:Cl)(o:ae->ab V->Rm V):Prop:=o c.j c.as c.σ=aa (c.v,c.τ)
variable{d F G b τ}
theorem Dr.tl(d:Dr w):(FK d.a d.way d.wd d.hk d.st d.x d.m d.T4).length<=40:=by
 have c:d.T4.length<=20:=by
  have l:(qb d.way (nP d.p) d.e d.p).length<=2:=by
   unfold qb;rcases au d.way 0<;>exact bx rfl
  have:∀(q:ab (ae×Int))(k i:ae),(J7 d.r q k i).length=k+q.length:=by
   intro q k
   induction k with
   |zero=>intro i;exact(dY _).symm|succ k h=>
    intro i;show(J7 d.r q k (ar i)).length+1=_;rw[h];exact Rp k q.length 1
  have e:d.T4.length=nP d.p+(qb d.way (nP d.p) d.e d.p).length:=this _ _ 0;have:=(by decide:∀n∈i8,n<=12) _ d.nm
  lia
 unfold FK tk;rcases au d.a 1<;>simp only[cS,cY]<;>lia
theorem Dr.WW(d:Dr w)(k:ae):Hd (bC d.f k)/\∀c,Hd (bC (oh d.f c) k):=⟨WT (WU d.hr) k,λc=>WT (ZQ (WU d.hr) c) k⟩
theorem QK:∀c∈RQ d,c.ok:=by
 have hT:d.T4=DS d.r (q_ d.m) (qb d.way (q_ d.m) d.e d.p):=by unfold Dr.T4;rw[d.hn]
 have si:=by
  exact(by decide:∀n∈i8,n<13) _ d.nm
 intro c h;rcases aG.mp h with rfl|h
 ·exact(Vn (hT▸d.ht) d.tl).more (by decide)
 rcases aG.mp h with rfl|h
 ·exact(Vj si d.hr).more (by decide)
 rcases aG.mp h with rfl|h
 ·exact(UH d.c (qE d.e) d.f d.p (lj is) d.cm).more (by decide)
 ·exact(aJ.mp h)▸(UT d.c d.f d.p (lj is) (qE d.e) d.cm).more (by decide)
theorem QL:∀c∈RS d F G,c.ok:=by
 intro c h;rcases aG.mp h with rfl|h
 ·exact(UP d.pm d.hw).more (by decide)
 rcases aG.mp h with rfl|h
 ·exact(UQ d.pm d.hw).more (by decide)
 ·exact(aJ.mp h)▸(P9 d.he d.hw).more (by decide)
theorem J_{cs:ab Cl}(ok:∀c∈cs,c.ok)(n:(cs.map λc=>WV c.j c.as).Nodup):∃o,dH 500 (AM o)/\∀c∈cs,c.at_ o:=⟨oCh cs,Vd (by decide) (Y3 ok),λc h=>Y2 n h⟩
theorem J'(h:15<=N)(a:∀c∈RQ d,c.at_ o)(g:∀c∈RS d F G,c.at_ o)(j:dn o 9 (eg (e8 d.c d.way d.asc (nP d.p) d.p 5)) (nz d.c d.f d.p (lj is) (qE d.e) (ni d.c))=aa ((.next,eg (e9 d.c d.way d.asc (nP d.p) d.p)),wB d.c d.f F G d.p (lj is) (ni d.c) d.way (qE d.e))):
  BO o N 0 e0 (sS is)=BO o N 15 (LX d.c d.way d.asc (nP d.p) d.p) (Gg d.c d.f F G d.p (lj is) (ni d.c) d.way d.e):=by
 have r:=abQ (o0:=lj is) h d.h2 d.h3 (a _ (aA (i:=0) rfl));simp only[<-d.hn]at r;exact r.trans ((abR h d.hw d.hp (a _ (aA (i:=1) rfl)) (a _ (aA (i:=2) rfl)) (a _ (aA (i:=3) rfl))).trans (abS h d.hw j (g _ (aA (i:=0) rfl)) (g _ (aA (i:=1) rfl)) (g _ (aA (i:=2) rfl))))
theorem law_fin(k:∀c∈xs,c.ok)(m:∀c∈ys,c.ok)(h:Good 500 228 [.a4 56,gk d.way (.bool d.asc)] (Gg d.c d.f F G d.p (lj is) (ni d.c) d.way d.e) (.bool b) τ)(q:∀o,(∀c∈xs,c.at_ o)->dn o 9 (eg (e8 d.c d.way d.asc (nP d.p) d.p 5)) (nz d.c d.f d.p (lj is) (qE d.e) (ni d.c))=aa ((.next,eg (e9 d.c d.way d.asc (nP d.p) d.p)),wB d.c d.f F G d.p (lj is) (ni d.c) d.way (qE d.e)))(n:∀o,(∀c∈ys,c.at_ o)->∃l g,BO o 22 16 (H5 d.c d.way d.asc (nP d.p) d.p b) τ=aa ((.ret (.bool aq),eg l),g))(r:((RQ d++(xs++(RS d F G++(Vq d F G b τ::ys)))).map λc=>WV c.j c.as).Nodup):∃τ,Good 600 229 [.a4 0] (sS is) (.bool aq) τ:=by
 obtain⟨o,ok,at_⟩:=J_ (λc a=>by
  rcases bE.mp a with a|a
  ·exact QK c a
  rcases bE.mp a with a|a
  ·exact k c a
  rcases bE.mp a with a|a
  ·exact QL c a
  rcases aG.mp a with rfl|a
  ·exact h
  ·exact m c a) r
 have i:=λc a=>at_ c (bo _ (bo _ a));obtain⟨l,g,z⟩:=n o λc a=>i c (bo _ (aK _ a));exact⟨g,(LU ⟨aF _,by decide⟩ ok (PZ ((J' (by decide) (λc a=>at_ c (b0 _ a)) (λc a=>i c (b0 _ a)) (q o (λc a=>at_ c (bo _ (b0 _ a))))).trans ((Zf (i _ (bo _ ax))).trans z)))).more (by decide)⟩
end
section
variable{is:ab Int}(d:Dr (Dw is))(F G:ae->ae)
def csA(asc:aE)(f:ae->ae)(c:Cfg)(p:ae×ae)(o0:MO)(q:ab (ae×Int)):ab Cl:=[⟨227,[.a4 3,.bool asc],nz c f p o0 q (ni c),.a4 65,H_ c f (eE asc f p.1) p o0 q (ni c)⟩,⟨227,[.a4 4,.bool asc],H_ c f (eE asc f p.1) p o0 q (ni c),.a4 66,UC c f (eE asc f p.1) (eE asc (oh f p.1) p.2) p o0 q (ni c)⟩]
def Dr.M{w:ae}(d:Dr w)(F G:ae->ae):ab ae:=jK (MW d.c d.way d.asc F G d.p) (aM 15 d.c.w)
def Dr.h{w:ae}(d:Dr w)(F G:ae->ae):ae->ae:=hW d.asc F G d.p
def csY:ab Cl:=[⟨227,[.a4 (aM 5 (bL d.way)),.bool d.asc],H6 d.c d.f F G (d.h F G) d.p (lj is) (xp d.e) [] (d.M F G) (DR d.way) d.e (nP d.p) d.way,.a4 (aM 6 (bL d.way)),LY d.c d.f F G (d.h F G) (d.h F G) d.p (lj is) (xp d.e) [] (d.M F G) (DR d.way) d.e (nP d.p) d.way⟩,
 ⟨125,UN,oR d.c d.f F G (d.h F G) (d.h F G) d.p (lj is) (xp d.e) [] (d.M F G) (DR d.way) d.e (nP d.p) d.way,tO (d.h F G) (nP d.p),oR d.c d.f F G (d.h F G) (d.h F G) d.p (lj is) (xp d.e) [] (d.M F G) (DR d.way) d.e (nP d.p) d.way⟩,
 ⟨163,[.a4 56,refOf kN],sg d.c d.f F G (d.h F G) d.p (lj is) (xp d.e) [] (d.M F G) (DR d.way) d.e (nP d.p) d.c.k d.way,.eN (BL d.c.k d.c.w (nP d.p)),sg d.c d.f F G (d.h F G) d.p (lj is) (xp d.e) [] (d.M F G) (DR d.way) d.e (nP d.p) d.c.k d.way⟩,
 ⟨163,[.a4 56,refOf kS],sg d.c d.f F G (d.h F G) d.p (lj is) (xp d.e) [] (d.M F G) (DR d.way) d.e (nP d.p) d.c.k d.way,.eN (stB d.c.s),sg d.c d.f F G (d.h F G) d.p (lj is) (xp d.e) [] (d.M F G) (DR d.way) d.e (nP d.p) d.c.k d.way⟩]
variable{d F G}
theorem ZR(b:nP d.p∈kq d.c)(g:Hd (bC F d.p.1++bC G d.p.2)):∀c∈csY d F G,c.ok:=by
 obtain⟨z1,z2⟩:=av (cN (Ig (mW d.way F G d.p) (d.h F G)) d.cm b);obtain⟨g1,g2⟩:=UU (c:=d.c) (m:=MW d.c d.way d.asc F G d.p) (he:=DR d.way) (f:=d.f) (F:=F) (G:=G) (h:=d.h F G) (p:=d.p) (o0:=lj is) (od:=xp d.e) (q:=[]) (e:=d.e) (n:=nP d.p) (k:=d.c.k) d.cm d.hw;rw[show wH d.c.w (MW d.c d.way d.asc F G d.p)=_ from z1]at g1
 rw[show Dm d.c.w (MW d.c d.way d.asc F G d.p)=_ from z2]at g2
 intro c a;rcases aG.mp a with rfl|a
 ·exact(ZG d.pm d.hw g).more (by decide)
 rcases aG.mp a with rfl|a
 ·exact(UR d.pm d.hw).more (by decide)
 rcases aG.mp a with rfl|a
 ·exact g1.more (by decide)
 ·rw[aJ.mp a];exact g2.more (by decide)
theorem Dr.kn(d:Dr w):(d.c.k,d.c.w,nP d.p)∈knL:=by
 unfold knL;exact b7.mpr ⟨d.c.k,by cases d.c.k<;>simp,b7.mpr ⟨d.c.w,kU d.cm,bF.mpr ⟨_,d.nm,rfl⟩⟩⟩
theorem QM(n:nP d.p∈kq d.c)(a:Hd (bC F d.p.1++bC G d.p.2))(b:∀c∈xs,c.ok)(g:∀o,(∀c∈xs,c.at_ o)->dn o 9 (eg (e8 d.c d.way d.asc (nP d.p) d.p 5)) (nz d.c d.f d.p (lj is) (qE d.e) (ni d.c))=aa ((.next,eg (e9 d.c d.way d.asc (nP d.p) d.p)),wB d.c d.f F G d.p (lj is) (ni d.c) d.way (qE d.e)))(h:Good 295 228 [.a4 50,gk d.way (.bool d.asc)] (gN (Ie d.c F G d.p (ni d.c) d.e)) (.bool aq) (sEn d.c F G (d.h F G) (d.M F G) d.e d.asc d.way d.p (L3 F G d.p d.way)))(k:((RQ d++(xs++(RS d F G++(Vq d F G aq (FF d.c d.f F G (d.h F G) d.p (lj is) (xp d.e) [] (d.M F G) (DR d.way) d.e (nP d.p) d.way [])::csY d F G)))).map λc=>WV c.j c.as).Nodup):∃τ,Good 600 229 [.a4 0] (sS is) (.bool aq) τ:=by
 refine law_fin b (ZR n a) ((Qb d.pm d.hw h).more (by decide)) g (λo y=>?_) k
 have l:=y _ (aA (i:=0) rfl);have m:=y _ (aA (i:=1) rfl);have q:=y _ (aA (i:=2) rfl);have r:=y _ (aA (i:=3) rfl);exact abT (o:=o) (c:=d.c) (asc:=d.asc) d.hw d.pm d.cm n d.kn l m q r
end
section
variable{is:ab Int}{d:Dr (Dw is)}
def tgs(B:ae)(l:ab ae):ab ae:=[220000000,226000000,225000000,164000000]++(l++[123000111,123000116,123000103,228000000,aM 227000000 (aM 5 B),125000000,163000078,163000083])
theorem Dr.si(d:Dr w):nP d.p<13:=by
 have h:∀n∈i8,n<13:=by decide
 exact h _ d.nm
theorem acn(d:Dr w):(bu.map λp=>iI d.f (oh d.f p.1) p)=bu.map λp=>aC (lQ λi=>aM 65 (d.r i)) (nP p):=⋯
theorem WX(h:d.way∈[0,1])(o:ae->ab V->Rm V):dn o 9 (eg (e8 d.c d.way d.asc (nP d.p) d.p 5)) (nz d.c d.f d.p (lj is) (qE d.e) (ni d.c))=aa ((.next,eg (e9 d.c d.way d.asc (nP d.p) d.p)),wB d.c d.f d.f (oh d.f d.p.1) d.p (lj is) (ni d.c) d.way (qE d.e)):=by
 have e:nz d.c d.f d.p (lj is) (qE d.e) (ni d.c)=wB d.c d.f d.f (oh d.f d.p.1) d.p (lj is) (ni d.c) d.way (qE d.e):=by
  have:([0,1].map λway=>wB d.c d.f d.f (oh d.f d.p.1) d.p (lj is) (ni d.c) way (qE d.e))=[0,1].map λι=>nz d.c d.f d.p (lj is) (qE d.e) (ni d.c):=⋯;exact(a5 this h).symm
 have v:=a5 (v9 o d.c d.asc (nP d.p) d.p (nz d.c d.f d.p (lj is) (qE d.e) (ni d.c))) h;rw[<-e];exact v
theorem QN:∀c∈csA d.asc d.f d.c d.p (lj is) (qE d.e),c.ok:=λc h=>by
 rcases aG.mp h with rfl|h
 ·exact(good3 d.pm (d.WW d.p.1).1).more (by decide)
 ·rw[aJ.mp h];exact(acb d.pm ((d.WW d.p.2).2 _)).more (by decide)
theorem aco(w:d.way=2)(o:ae->ab V->Rm V)(h:∀c∈csA d.asc d.f d.c d.p (lj is) (qE d.e),c.at_ o):dn o 9 (eg (e8 d.c d.way d.asc (nP d.p) d.p 5)) (nz d.c d.f d.p (lj is) (qE d.e) (ni d.c))=aa ((.next,eg (e9 d.c d.way d.asc (nP d.p) d.p)),wB d.c d.f (eE d.asc d.f d.p.1) (eE d.asc (oh d.f d.p.1) d.p.2) d.p (lj is) (ni d.c) d.way (qE d.e)):=by
 have k:=h _ (aA (i:=0) rfl);have a:=h _ (aA (i:=1) rfl);have:=abO (n:=nP d.p) k a;rw[w];exact this
theorem QO(ok:dH 129 lR)(g:nP d.p∈kq d.c)(k:d.way=0\/d.way=1):∃τ,Good 600 229 [.a4 0] (sS is) (.bool aq) τ:=by
 have v:bC d.f d.p.1++bC (oh d.f d.p.1) d.p.2=bC d.f d.p.1++bC (oh d.f d.p.1) d.p.2:=rfl;have l:Hd (bC d.f d.p.1++bC (oh d.f d.p.1) d.p.2):=λr m=>(bE.mp m).elim ((d.WW d.p.1).1 r) ((d.WW d.p.2).2 _ r);have a:d.way∈[0,1]:=by rcases k with h|h<;>rw[h]<;>simp
 refine QM (xs:=[]) (F:=d.f) (G:=oh d.f d.p.1) g l (λc q=>sr q) (λo ι=>WX a o) ?_ ?_
 ·unfold Dr.M Dr.h
  rcases k with h|h
  ·have hp:=d.hp
   rw[h]at hp;obtain⟨n,s,e⟩:=bF.mp (show d.p∈i8.map λn=>(n,0) from hp)
   have b:=g;have si:=d.si;rw[<-e]at b si;rw[h,<-e];exact Zu ok (ro:=λi=>aM 65 (d.r i)) (λι=>rfl) d.cm b si
  ·rw[h];exact Zv ok (a5 (acn d) d.pm) d.cm d.pm g d.si
 ·have t:d.way∈bh 3:=d.hw
  have u:((RQ d++(([]:ab Cl)++(RS d d.f (oh d.f d.p.1)++(Vq d d.f (oh d.f d.p.1) aq (FF d.c d.f d.f (oh d.f d.p.1) (d.h d.f (oh d.f d.p.1)) d.p (lj is) (xp d.e) [] (d.M d.f (oh d.f d.p.1)) (DR d.way) d.e (nP d.p) d.way [])::csY d d.f (oh d.f d.p.1))))).map λ(c:Cl)=>WV c.j c.as)=tgs (bL d.way) []:=⋯;rw[u];have:∀w∈[0,1],(tgs (bL w) []).Nodup:=by decide
  exact this _ a
theorem acp(ok:dH 129 lR)(n:nP d.p∈kq d.c)(w:d.way=2):∃τ,Good 600 229 [.a4 0] (sS is) (.bool aq) τ:=by
 have s:=zU (asc:=d.asc) (d.WW d.p.1).1;have a:=zU (asc:=d.asc) ((d.WW d.p.2).2 d.p.1);have b:Hd (bC (eE d.asc d.f d.p.1) d.p.1++bC (eE d.asc (oh d.f d.p.1) d.p.2) d.p.2):=λr g=>by
  rcases bE.mp g with h|h
  ·rw[s.2]at h;exact(d.WW d.p.1).1 r (zS h)
  ·rw[a.2]at h;exact(d.WW d.p.2).2 _ r (zS h)
 refine QM (xs:=csA d.asc d.f d.c d.p (lj is) (qE d.e)) (F:=eE d.asc d.f d.p.1) (G:=eE d.asc (oh d.f d.p.1) d.p.2) n b QN (λo x=>aco w o x) ?_ ?_
 ·unfold Dr.M Dr.h
  rw[w];refine Zw ok d.cm d.pm n ?_;have:=U7 (asc:=d.asc) (bC d.f d.p.1) (bC (oh d.f d.p.1) d.p.2);rw[Qo b,s.2,a.2];exact this
 ·have t:((RQ d++(csA d.asc d.f d.c d.p (lj is) (qE d.e)++(RS d (eE d.asc d.f d.p.1) (eE d.asc (oh d.f d.p.1) d.p.2)++(Vq d (eE d.asc d.f d.p.1) (eE d.asc (oh d.f d.p.1) d.p.2) aq (FF d.c d.f (eE d.asc d.f d.p.1) (eE d.asc (oh d.f d.p.1) d.p.2) (d.h (eE d.asc d.f d.p.1) (eE d.asc (oh d.f d.p.1) d.p.2)) d.p (lj is) (xp d.e) [] (d.M (eE d.asc d.f d.p.1) (eE d.asc (oh d.f d.p.1) d.p.2)) (DR d.way) d.e (nP d.p) d.way [])::csY d (eE d.asc d.f d.p.1) (eE d.asc (oh d.f d.p.1) d.p.2))))).map λ(c:Cl)=>WV c.j c.as)=tgs (bL d.way) [227000003,227000004]:=⋯
  rw[t,w];decide
theorem ZS(ok:dH 129 lR)(n:nP d.p∈kq d.c):∃τ,Good 600 229 [.a4 0] (sS is) (.bool aq) τ:=by
 rcases aG.mp (show d.way∈0::[1,2] from d.hw) with h|h
 ·exact QO ok n (.inl h)
 ·rcases aG.mp h with h|h
  ·exact QO ok n (.inr h)
  ·exact acp ok n (aJ.mp h)
end
def Gh:cF:=gz 15
theorem Vr:(bT 229).body=Ia 15 0++(.Assign [MF Gh] (.Call (yb (i5 Gh)) (Ae (i5 Gh)) [] (Ui (i5 Gh))) (zu Gh)::Ia 22 16):=⋯
theorem adV:(∃x p,yb (i5 Gh)=.Name x p)/\(∃x p,MF Gh=.Name x p)/\fb (Ae (i5 Gh))=aq:=⟨⟨aL "_law_is_done",Uj (yb (i5 Gh)),⋯⟩,⟨aL "is_done",Uj (MF Gh),⋯⟩,⋯⟩
theorem w15(o:ae->ab V->Rm V)(c:Cfg)(asc:aE)(p:ae×ae)(way n:ae)(σ:St):(bg (dc o) 30).ev (bT 229).sc (yb (i5 Gh)) (eg (LX c way asc n p)) σ=aa (.fn 228,σ)/\te (bg (dc o) 30) (bT 229).sc (eg (LX c way asc n p)) (Ae (i5 Gh)) σ=aa ([.a4 56,gk way (.bool asc)],σ)/\
  ui (bg (dc o) 30) (bT 229).sc (MF Gh) (.bool ai) (eg (LX c way asc n p)) σ=aa (eg (H5 c way asc n p ai),σ):=⟨⋯,⋯,⋯⟩
section
variable{o:ae->ab V->Rm V}{c:Cfg}{asc:aE}{p:ae×ae}{way n:ae}{σ0 σ1:St}
theorem ZT(ok:dH 500 (AM o))(M:(c,n)∈qs)(e:BO o 15 0 e0 σ0=aa ((.next,eg (LX c way asc n p)),σ1))(hb:BI 291 228 [.a4 56,gk way (.bool asc)] σ1):Fin 600 229 [.a4 0] σ0:=λG E us k N S A RA O Q q=>by
 have H:=ok.Y1 E;obtain⟨I,U⟩:=pH H (b:=500) ⟨aF _,by decide⟩ 30
 have J:8<=500+2*30:=by decide
 refine uJ H (⋯:(dc o).fn 229=aa (bT 229)) (⋯:hI (bT 229).params [.a4 0] (bT 229).lz=aa (eg e0)) N S RA.top λ{om j k1}F g1 P R cP=>?_;have RD:el (A.deeper (cW j k.h.objs.size (G.X.jV 229))) (500+2*30):=(RA.less (by decide:561<=600)).deep _
 have m:=iT (env:=cW j k.h.objs.size (G.X.jV 229)) O;have s:(cW j k.h.objs.size (G.X.jV 229)).frame=aa (cW j k.h.objs.size (G.X.jV 229)).locals:=rfl;generalize cW j k.h.objs.size (G.X.jV 229)=env at*;rw[Vr];refine sP (uM H I U J R _ _ e P _ _ _ RD λf k2 g2 T r=>?_);obtain⟨R2,r⟩:=r;have r:f=.next:=r;subst r;obtain⟨w1,W,_⟩:=w15 o c asc p way n σ1;obtain⟨nf,nt,Y⟩:=adV;refine ek (j4 (zb H I.togw nf Y R2 w1 W T RD λt L l3 Z w=>?_) rfl (by obtain⟨x,p',e⟩:=nt;rw[e];rfl))
 refine hb G E t L w Z _ [env] (RD.less (by decide)) m ((show Act G L [] fromλx h=>sr h).cons s (R2.mono l3)) _ λy all h' tk a Sb l d C=>?_
 have off:=λx g=>(a.off x g).1;have Sf:SR G ⟨y.ρ,h',tk⟩ ⟨.nil,y.ρ.length⟩:=C.str Sb off;have Rf:cB G ⟨y.ρ,h',tk⟩ env (bT 229).sc (eg (LX c way asc n p)):=C.envX (Off.nt off) (R2.mono (l3.trans l)) λx g=>(a.off x g).2;have e0:(hX [MF Gh] env).map (·.2)=[fx (MF Gh) env]:=by obtain⟨x,p',e⟩:=nt;rw[e];rfl
 rw[e0];show bk _ _ (fx (MF Gh) env (.bool ai)) _ _ _;refine ES H.toWi I.togw (by decide) Rf (v:=.bool ai) rfl _ _ (w15 o c asc p way n _).2.2 Sf _ _ _ RD λι k4 g4 S4 R4=>?_
 refine uM H I U J R4 _ _ (UE (o:=o) (asc:=asc) (way:=way) (p:=p) _ M) S4 _ _ _ RD λf D g5 S5 r=>?_;obtain⟨_,u,rfl,i⟩:=r;have i:u=.bool aq:=i;subst i;refine q D ?_ S5.pl;have gg:bY k.ρ k.h D.ρ D.h (cy env++locs all):=((((g1.wk.trans (g2.weaken λι h=>b0 _ h)).trans l3.wk).trans l.wk).trans ((m3.grow C).weaken λι h=>bo _ h)).trans ((g4.trans g5).weaken λι h=>b0 _ h);refine bY.drop (bY.refl _ _ _) gg λx g=>?_;rcases bE.mp g with g|g
 ·exact cP x g
 ·rcases d x g with z|z
  ·rw[aJ.mp (show x∈[env.locals] from z)];exact cP _ ax
  ·exact gI (λb o e=>(l3.live b _ ((g2.live b _ ((g1.live b o e).choose_spec)).choose_spec))) z
end
section
variable{is:ab Int}{d:Dr (Dw is)}{F G:ae->ae}
theorem QP(a:c∈fL)(h:n∈PR c):(c,n)∈qs:=b7.mpr ⟨c,a,bF.mpr ⟨n,h,rfl⟩⟩
theorem QQ(hb:(d.c,nP d.p)∈qs)(b:∀c∈xs,c.ok)(g:∀o,(∀c∈xs,c.at_ o)->dn o 9 (eg (e8 d.c d.way d.asc (nP d.p) d.p 5)) (nz d.c d.f d.p (lj is) (qE d.e) (ni d.c))=aa ((.next,eg (e9 d.c d.way d.asc (nP d.p) d.p)),wB d.c d.f F G d.p (lj is) (ni d.c) d.way (qE d.e)))(h:BI 291 228 [.a4 50,gk d.way (.bool d.asc)] (gN (Ie d.c F G d.p (ni d.c) d.e)))(n:((RQ d++(xs++RS d F G)).map λc=>WV c.j c.as).Nodup):Fin 600 229 [.a4 0] (sS is):=by
 obtain⟨o,ok,at_⟩:=J_ (cs:=RQ d++(xs++RS d F G)) (λc a=>by
  rcases bE.mp a with a|a
  ·exact QK c a
  ·exact(bE.mp a).elim (b c) (QL c)) n
 refine ZT (p:=d.p) ok hb ?_ (UX (f:=d.f) (o0:=lj is) d.pm d.hw h);exact(J' (N:=15) (aF _) (λc a=>at_ c (b0 _ a)) (λc a=>at_ c (bo _ (bo _ a))) (g o λc a=>at_ c (bo _ (b0 _ a)))).trans rfl
theorem ZU(ok:dH 129 lR)(k:nP d.p∈PR d.c):Fin 600 229 [.a4 0] (sS is):=by
 have hb:=QP d.cm k;have b:∀w∈[0,1],d.way=w->Fin 600 229 [.a4 0] (sS is):=λw l a=>by
  have b:d.way∈[0,1]:=a▸l;refine QQ (xs:=[]) (F:=d.f) (G:=oh d.f d.p.1) hb (λc m=>sr m) (λo ι=>WX b o) ?_ ?_
  ·rcases aG.mp b with h|h
   ·have hp:=d.hp
    rw[h]at hp;obtain⟨n,q,e⟩:=bF.mp (show d.p∈i8.map λn=>(n,0) from hp)
    have g:=hb;have si:=d.si;rw[<-e]at g si;rw[h,<-e];exact UY ok (ro:=λi=>aM 65 (d.r i)) rfl g si
   ·rw[aJ.mp h];exact UZ ok (a5 (acn d) d.pm) hb d.pm d.si
  ·have t:((RQ d++(([]:ab Cl)++RS d d.f (oh d.f d.p.1))).map λ(c:Cl)=>WV c.j c.as)=[220000000,226000000,225000000,164000000,123000111,123000116,123000103]:=⋯
   rw[t];decide
 rcases aG.mp (show d.way∈0::[1,2] from d.hw) with h|h
 ·exact b 0 ax h
 rcases aG.mp h with h|h
 ·exact b 1 (aK _ ax) h
 have a:=aJ.mp h;refine QQ (xs:=csA d.asc d.f d.c d.p (lj is) (qE d.e)) (F:=eE d.asc d.f d.p.1) (G:=eE d.asc (oh d.f d.p.1) d.p.2) hb QN (λo x=>aco a o x) ?_ ?_
 ·rw[a];exact U0 ok hb d.pm
 ·have t:((RQ d++(csA d.asc d.f d.c d.p (lj is) (qE d.e)++RS d (eE d.asc d.f d.p.1) (eE d.asc (oh d.f d.p.1) d.p.2))).map λ(c:Cl)=>WV c.j c.as)=[220000000,226000000,225000000,164000000,227000003,227000004,123000111,123000116,123000103]:=⋯
  rw[t];decide
end
theorem Vs(ok:dH 129 lR)(is:ab Int):Fin 600 229 [.a4 0] (sS is):=by
 obtain⟨d⟩:=acj (Dw is);rcases Vo (c:=d.c) d.nm with h|h
 ·exact(ZS ok h).elim λτ g=>g.fin
 ·exact ZU ok h
section
variable(asc:aE)(f g:ae->ae)
theorem ZV:(oj.map λk=>p6 5 [9] (lM T8 16 199 [.a4 0,.a4 1] (muM asc f g k)))=oj.map λk=>aa (.a4 5,muM asc f g k,[.list (aC (f' (g6 asc (bC f k.1) (bC g k.2))) (aM k.1 k.2))]):=⋯
end
theorem Vt(asc:aE)(f g:ae->ae)(k:ae×ae)(c:k∈oj):∃v τ t0,qX (muM asc f g k) .nil 0=aa t0/\Good 95 199 [.a4 0,.a4 1] ⟨t0,eP (muM asc f g k)⟩ v τ/\
  p6 (eP (muM asc f g k)) [9] (aa (v,τ))=aa (.a4 5,d6 [] (muM asc f g k),[.list (aC (f' (g6 asc (bC f k.1) (bC g k.2))) (aM k.1 k.2))]):=by
 have h:=a5 (ZV asc f g) c;have t:qX (muM asc f g k) .nil 0=aa (Ge (muM asc f g k)):=⋯;have r:lM T8 16 199 [.a4 0,.a4 1] (muM asc f g k)=d' T8 (bg T8 16) 199 [.a4 0,.a4 1] ⟨Ge (muM asc f g k),eP (muM asc f g k)⟩:=⋯;rw[r]at h;have d:∀x,p6 5 [9] x=aa (.a4 5,muM asc f g k,[.list (aC (f' (g6 asc (bC f k.1) (bC g k.2))) (aM k.1 k.2))])->∃v τ,x=aa (v,τ):=λx e=>by
  induction x with
  |none=>exact b6 (e:aw=aa _)|some p=>exact⟨p.1,p.2,rfl⟩
 obtain⟨v,τ,a⟩:=d _ h;rw[a]at h;exact⟨v,τ,_,t,kc (n:=62) (b:=62) (N:=16) ⟨aF _,by decide⟩ Vc a,h⟩
theorem QR{e a b c d:MO}{K q:ae}{asc:aE}{x:OX}{τ:St}(h:(gN [e,a,b,c,d]).t.get K=aa (.list (.cons (mI asc q) .nil)))(i:(gN [e,a,b,c,d]).t.get q=aa mH)(run:WB K q asc (gN [e,a,b,c,d])=aa (x,τ)):
  ∃k f g,k∈oj/\K=1/\[e,a,b,c,d]=muM asc f g k/\x=FV 5 asc f g k:=by
 obtain⟨e0,m⟩:=hV (b:=au K 1) run;obtain⟨e1,o⟩:=hV (b:=au q 2) m;obtain⟨l,j,p⟩:=vj (n:=0) (f:=WA asc) o;obtain⟨u,r,e2,s⟩:=oS (v:=l) p;obtain⟨w,r',e3,y⟩:=oS (v:=r) s;obtain⟨e4,r6⟩:=zL (v:=r') y;obtain⟨e5,A⟩:=rY (v:=u) r6;obtain⟨e6,C⟩:=rY (v:=w) A;obtain⟨k,f,g,z⟩:=BY C
 replace e0:=ay e0
 rw[e0,ay e1]at h;rw[ay e1]at i;rw[e2,e3,e4,e5,e6]at j;exact⟨k,f,g,z.mem,e0,by rw[some_inj (show aa e=_ from j),some_inj (show aa a=_ from h),some_inj (show aa b=_ from i),some_inj (show aa c=_ from z.fst),some_inj (show aa d=_ from z.snd)];rfl,FW z⟩
theorem QS{as:ab V}{mu:ab MO}{x:OX}(h:Uq as mu=aa x):∃asc k f g,k∈oj/\as=[.a4 0,.a4 1]/\mu=muM asc f g k/\x=FV 5 asc f g k:=by
 obtain⟨e,a,b,c,d,e1,h⟩:=Qw h;obtain⟨τ,h⟩:=Dv h;obtain⟨x1,j,e2,h⟩:=zW h;obtain⟨e3,h⟩:=rY (v:=x1) h;obtain⟨K,q,asc,h⟩:=vg h;obtain⟨k,f,g,i,e5,e6,e7⟩:=QR h.keys h.shape h.run;exact⟨asc,k,f,g,i,by rw[e2,e3,h.eq,e5],e1.trans e6,e7⟩
theorem Vu:FOK 95 199 Uq:=λas mu v ups nw h=>by
 obtain⟨asc,k,f,g,a,rfl,rfl,e⟩:=QS h;clear h;obtain⟨rfl,q⟩:=av e;obtain⟨rfl,rfl⟩:=av q;obtain⟨v,τ,t0,z⟩:=Vt asc f g k a;exact⟨[9],v,τ,t0,z⟩
theorem Vv(h:FOK 129 196 Ur):dH 129 lR:=λj as σ v τ e=>by
 unfold lR at e
 induction a:au j 196 with
 |true=>rw[a]at e;cases ay a;exact Du h e|false=>
  rw[a]at e
  replace e:cS (au j 199) (HV PE Uq as) bW σ=aa (v,τ):=e
  induction a:au j 199 with
  |true=>rw[a]at e;cases ay a;exact(Du Vu e).more (by decide)|false=>rw[a]at e;exact b6 e
section
variable{prog:bS}{w:bU}{A:aW}{R:c8->ah->Prop}{s:ah}
theorem F1(h:bk (bK prog w) (A.deeper env) (cn e env) (λv b=>R (.ok (.ret v)) b)
   (λd b=>bk (bK prog w) (A.deeper env) (oX env d) (λι a=>R (.error d) a) (λc a=>R (.error c) a) b) s):dg (bK prog w) A (.expr e env) R s:=by
 refine dN rfl ?_;show bk _ (A.deeper env) (do point;ret (<-(cn e env).onRaise (oX env))) _ _ s
 exact aj (vG (aj (jF (aI h (λv b h' =>aO h') λι ι h' =>h'))))
theorem rb(m:A.depth<mh)(z:s.heap.get? a=aa o)(l:o.data=.func f)(p:f.scope.isCoroutine=ai)(i:f.scope.isGenerator=ai)(y:f.body=.expr body)(q:s.heap.CodeRec f.code f.qualname)(h:bk (bK prog w) A.in1 (Iy f args) (λbinds d=>bk (bK prog w) A.in1 (pQ f.scope f.globals f.closure binds (f.qualname++".<locals>.") (aa a) f.code aw f.builtins)
    (λenv b=>b.heap.NoLimit/\dg (bK prog w) A (.expr body env) R b) (λe t=>R (.error e) t) d) (λe t=>R (.error e) t) s):dg (bK prog w) A (.call (.ref a) args) R s:=by
 refine dN rfl ?_;refine aj (aT (m9 z ?_));refine ck λC=>?_;obtain⟨c,E,vs,F,x,u,v,D⟩:=q;refine C ?_;simp only[l,callFunction,p,i,y,x];exact aj (aT (hE u v D (aj (aO (aj (aI (x▸h) (λbinds d j=>aj (aI j (λenv b g=>aj (aT (wpAny_enterFrame g.1 m (aO (And.intro rfl g.2))))) λι ι h' =>h')) λι ι h' =>h'))))))
end
theorem lk1{α:Type}(x:Str)(a:α)(l:ab (Str×α)):ab.lookup x ((x,a)::l)=aa a:=by rw[dS,DH]
noncomputable abbrev WY:Sc:=[(Wu,.local),(t6,.free),(wNm,.globalImplicit)]
def nR:ae:=enc Wu
def nK:ae:=enc t6
theorem acq:fA Wu=aa nR:=⋯
theorem WZ:fA t6=aa nK:=⋯
theorem nRK:au nR nK=ai/\au nK nR=ai:=⟨⋯,⋯⟩
theorem oU:(mZ eD).kind=.function/\(mZ eD).isCoroutine=ai/\(mZ eD).isGenerator=ai:=⟨⋯,⋯,⋯⟩
theorem Mb{s:ah}{c:aB}{T code pm u:ag}:Rk s (JL c T code pm) ⟨[u],[]⟩ [(Wu,u)]:=kp_binds (K:=[]) (λι ι e=>b6 e) λS=>⋯
theorem vk(h:WY.lookup x=aa d):(x=Wu/\d=.local)\/(x=t6/\d=.free)\/(x=wNm/\d=.globalImplicit):=by
 have h:=mem_of_lookup h;simp only[WY,aG,dE.injEq,qh,VY]at h;exact h
section
variable{G:Gm}{K:jT}{T:Tab}{mm n:ae}{k:Kf}{σ τ:St}{r:Rec}
def wM(a:Gm)(f:ae)(g:Kf)(F:aB)(c:aB)(i:aB)(j:ag)(l:ag)(u:ag)(s:V)(y:V)(A:aW)(Q:ag->ah->Prop):Prop:=∀{K:jT}{T:Tab}{mm:ae}{σ:St}{τ:St}{r:Rec}(H:qT a K T mm)(I:gw a r f)(S:SR a g σ)(m:g.h.get? F=aa {cls:=.type "function",data:=.func (JL c j (.ref i) l)})(e:g.h.CodeRec (.ref i) yp){d:ag}{v:V}(o:g.h.IsCell c (aa d))(p: ¬adr g.ρ c)(t:a.X.h0.get? c=aw)(x:RV a g y d)(C:RV a g s u)(run:r.ev WY (HB eD) [(nR,s),(nK,y)] σ=aa (v,τ)){E:ag->ah->Prop}(D:el A (f+1))(q:∀z k',Le g k'->SR a k' τ->RV a k' v z->Q z (sh a.b k')),bk (Md a.w) A (call (.ref F) [u]) Q E (sh a.b g)
def B2:=λx:((_×_×_)×_×_×_)×(_×_×_)×(_×_)×_×_=>wM x.1.1.1 x.1.1.2.1 x.1.1.2.2 x.1.2.1 x.1.2.2.1 x.1.2.2.2 x.2.1.1 x.2.1.2.1 x.2.1.2.2 x.2.2.1.1 x.2.2.1.2 x.2.2.2.1 x.2.2.2.2
def gc:=haveI:=Am;haveI:=Cv;haveI:=neV;haveI:=eI;qy bB B2
namespace B3
def a:=gc.1.1.1
def f:=gc.1.1.2.1
def g:=gc.1.1.2.2
def F:=gc.1.2.1
def c:=gc.1.2.2.1
def i:=gc.1.2.2.2
def j:=gc.2.1.1
def l:=gc.2.1.2.1
def u:=gc.2.1.2.2
def s:=gc.2.2.1.1
def y:=gc.2.2.1.2
def A:=gc.2.2.2.1
def Q:=gc.2.2.2.2
theorem ok:wM a f g F c i j l u s y A Q:=by
 intro K T mm σ τ r H I S hF N kv v O P zc rk ru run E RA q;refine ib (rb RA.top hF rfl oU.2.1 oU.2.2 rfl N (aT (Mb _ _ _ _ ?_)));refine aT<|wpAny_newFunctionEnv (around:=aw) (λx C=>by
  have C:x∈(mZ eD).names:=C;rw[rL]at C;simp only[aG,qh,VY]at C;rcases C with rfl|rfl|rfl<;>exactλe=>nomatch e) (by
  intro x C;rw[aJ]at C;subst C;show(mZ eD).names.lookup Wu=_;exact rL▸lk1 _ _ _) (λD U W=>?_) oU.1
 have k₁:∀b o,g.h.get? b=aa o->D.get? b=aa o:=λb o e=>W.extBut b o (df (eG e)) (bf _ e);refine⟨(H.lim.keeps S.base).keeps k₁,F1 ?_⟩;have Z:g.h.get? g.h.objs.size=aw:=cO (aF _);have t:Le g ⟨g.ρ,D,g.tk+1⟩:=bY.old k₁;have X:c≠g.h.objs.size:=by
  obtain⟨o,e,_⟩:=O;exact df (eG e)
 have M:∀{x:Str},(newEnv (mZ eD) g.h.objs.size dh [(t6,c)] (yp++".<locals>.") (aa F) (.ref i) aw fh).kindOf x=WY.lookup x:=λ{x}=>by
  show(mZ eD).names.lookup x=_;rw[rL]
 have R:cB a ⟨g.ρ,D,g.tk+1⟩ (newEnv (mZ eD) g.h.objs.size dh [(t6,c)] (yp++".<locals>.") (aa F) (.ref i) aw fh) WY [(nR,s),(nK,y)]:=by
  refine⟨oU.1,rfl,rfl,λx d e=>.inl (by rw[M,<-kO];exact e),⟨_,U,λx m z C hz J=>?_⟩,λp hp=>?_,λx m z C hz J=>?_,⟨(S.cP Z).1,(S.cP Z).2⟩,λp hp p' L ι=>?_,λx e=>?_,?_⟩
  ·rw[M]at J
   rcases vk J with⟨rfl,_⟩|⟨_,e⟩|⟨_,e⟩
   ·obtain rfl:=af (acq.symm.trans C)
    have hz:@dD (λι=>ao V) (c0 [(nK,y)] nR) (aa s) (au nR nR)=aa z:=hz;rw[eL]at hz;injection hz with hz;subst hz
    refine⟨u,?_,ru.mono t NT.nil⟩;exact lk1 Wu u []
   ·exact nomatch e
   ·exact nomatch e
  ·have hp:p∈[(t6,c)]:=hp
   rw[aJ]at hp;subst hp;exact⟨⟨_,t.oB P gL O⟩,P,zc,X⟩
  ·rw[M]at J
   have Y:x=t6:=by
    rcases J with J|J
    ·rcases vk J with⟨_,e⟩|⟨_,e⟩|⟨_,e⟩<;>exact nomatch e
    ·rcases vk J with⟨_,e⟩|⟨e,_⟩|⟨_,e⟩
     ·exact nomatch e
     ·exact e
     ·exact nomatch e
   subst Y;obtain rfl:=af (WZ.symm.trans C);have hz:@dD (λι=>ao V) (@dD (λι=>ao V) (c0 [] nK) (aa y) (au nK nK)) (aa s) (au nK nR)=aa z:=hz;rw[nRK.2,eL]at hz;injection hz with hz;subst hz
   refine⟨c,kv,?_,t.oB P gL O,rk.mono t NT.nil⟩;exact lk1 t6 c []
  ·have hp:p∈[(t6,c)]:=hp
   have L:p'∈[(t6,c)]:=L;rw[aJ]at hp L;subst hp;subst L;rfl
  ·rw[M]at e
   exfalso;rcases vk e with⟨_,e⟩|⟨_,e⟩|⟨_,e⟩<;>exact nomatch e
  ·unfold wR
   rw[show(newEnv (mZ eD) g.h.objs.size dh [(t6,c)] (yp++".<locals>.") (aa F) (.ref i) aw fh).scope.kind=.function from oU.1]
   rfl
 have RD:el (A.deeper (newEnv (mZ eD) g.h.objs.size dh [(t6,c)] (yp++".<locals>.") (aa F) (.ref i) aw fh)) f:=RA.deep _;exact I.ev R v τ run (S.keeps k₁) _ _ _ RD λz k' g' S' rz=>q z k' (t.trans g') S' rz
end B3
theorem QT{G:Gm}{n:ae}{k:Kf}{F:aB}{c:aB}{code:aB}{Tp:ag}{pm:ag}{u:ag}{o:V}{key:V}{A:aW}{Q:ag->ah->Prop}:wM G n k F c code Tp pm u o key A Q:=@d5 _ _ B2 @B3.ok (((G,n,k),F,c,code),(Tp,pm,u),(o,key),A,Q)
end
noncomputable def vl(v:ag):ao (ab cK):=match v with
 |.bytes b a=>aa b.toList|_=>aw
noncomputable def gR(r:ab ae):ab cK:=r.map bR
noncomputable def W0:ab cK->ae
 |[]=>0|x::_=>x.toNat
theorem pO(r:ab ae):W0 (gR r)=dK r:=by
 induction r with
 |nil=>rfl|cons a r=>show(bR a).toNat=a% 256;simp
theorem zZ(r:ab ae):dK r<256:=by
 induction r with
 |nil=>exact bx rfl|cons a r=>exact Rz a (bx rfl)
def Rl(L:ab (ab cK))(a b:ab cK):Prop:=W0 a<W0 b\/(W0 a=W0 b/\L.idxOf a<L.idxOf b)
theorem F2{L:ab (ab cK)}(n:L.Nodup):L.Pairwise λa b=>L.idxOf a<L.idxOf b:=by
 rw[jn];intro i j c d h;simp only[n.idxOf_getElem i c,n.idxOf_getElem j d];exact h
theorem uniq{M Z:ab (ab cK)}(h:M.Perm L)(c:Z.Perm L)(p:M.Pairwise (Rl L))(d:Z.Pairwise (Rl L)):M=Z:=
 ab.Perm.eq_of_pairwise (λa b ι ι x y=>by
  rcases x with x|⟨x,e⟩<;>rcases y with y|⟨y,f⟩
  exact er y (nN x);exact((df x) y.symm).elim;exact((df y) x.symm).elim;exact er f (nN e)) p d (h.trans c.symm)
theorem Dx(n:ae):(bh n).Pairwise λa b=>a<b:=by
 rw[jn];intro i j d f c;have e:∀k(h:k<(bh n).length),(bh n)[k]=k:=λk h=>by
  have h' :=by exact(((rK n).1)▸h)
  have:=(rK n).2 k h';exact af ((az h)▸this)
 simp only[e i d,e j f];exact c
theorem Mc{rs:ab (ab ae)}:∀{l:ab ae},l.Nodup->(l.flatMap λc=>rs.filter λr=>au (dK r) c).Perm (rs.filter λr=>decide (dK r∈l)):=by
 intro l
 induction l with
 |nil=>intro _;simp|cons c l i=>
  intro n;obtain⟨a,n⟩:=gV.mp n;rw[ab.flatMap_cons];have h:=ab.filter_append_perm (λr=>au (dK r) c) (rs.filter λr=>decide (dK r∈c::l));simp only[MV,MV]at h;refine ab.Perm.trans ?_ h;have e1:(rs.filter λr=>au (dK r) c&&decide (dK r∈c::l))=rs.filter λr=>au (dK r) c:=by
   refine RC λr ι=>?_
   induction q:au (dK r) c with
   |false=>rfl|true=>rw[ay q];simp
  have e2:(rs.filter λr=>!au (dK r) c&&decide (dK r∈c::l))=rs.filter λr=>decide (dK r∈l):=by
   refine RC λr ι=>?_
   induction q:au (dK r) c with
   |false=>
    have:dK r≠c:=λe=>by rw[e,eL]at q;exact nomatch q
    simp[this]
   |true=>rw[ay q];simp[a]
  simp only[e1,e2];exact(i n).append_left _
theorem Vw(asc:aE):(YN asc).Nodup:=by
 have u:(bh 256).Nodup:=(Dx 256).imp λh=>df h
 cases asc
 ·exact fk.mpr (u.imp λh=>Ne.symm h)
 ·exact u
theorem QU(asc:aE)(r:ab ae):dK r∈YN asc:=by
 cases asc
 ·exact gp.mpr (da (zZ r))
 ·exact da (zZ r)
theorem vm(asc:aE)(rs:ab (ab ae)):(iy asc rs).Perm rs:=by
 have h:=Mc (rs:=rs) (Vw asc);rw[Mz.mpr λr ι=>cc (QU asc r)]at h;exact h
noncomputable def qt(asc:aE)(rs:ab (ab ae)):ab (ab cK):=if asc then rs.map gR else(rs.map gR).reverse
def ZW(asc:aE)(rs:ab (ab ae)):ab (ab cK):=if asc then(iy asc rs).map gR else((iy asc rs).map gR).reverse
theorem Ka(n:(rs.map gR).Nodup):(qt asc rs).Nodup:=by
 rcases asc
 ·exact fk.mpr (ab.Pairwise.imp (λh=>Ne.symm h) n)
 ·exact n
theorem QV{rs:ab (ab ae)}(g:(rs.map gR).Nodup):(ZW asc rs).Pairwise (Rl (qt asc rs)):=by
 have m:∀{c:ae}{r:ab ae},r∈(rs.filter λr=>au (dK r) c)->dK r=c:=λh=>ay (eZ.mp h).2
 induction asc with
 |true=>
  have pw:=et.mp (F2 g);show((iy aq rs).map gR).Pairwise (Rl (rs.map gR));rw[et];refine IQ.mpr ⟨λc ι=>w6 (λb hb h=>?_) (pw.filter _),(Dx 256).imp λ{c d}a x e y f=>?_⟩
  ·exact .inr ⟨by rw[pO,pO,m b,m hb],h⟩
  ·refine .inl ?_
   simp only[pO,pO,m e,m f];exact a
 |false=>
  have n:=Ka (asc:=ai) g;show((iy ai rs).map gR).reverse.Pairwise (Rl (qt ai rs));rw[fk,et];refine IQ.mpr ⟨λc ι=>w6 (λb hb h=>?_) ((et.mp (fk.mp (F2 n))).filter _),(fk.mpr (Dx 256)).imp λ{c d}a x e y f=>?_⟩
  ·exact .inr ⟨by rw[pO,pO,m b,m hb],h⟩
  ·refine .inl ?_
   simp only[pO,pO,m e,m f];exact a
theorem Me(asc:aE)(rs:ab (ab ae)):(ZW asc rs).Perm (qt asc rs):=by
 have h:=(vm asc rs).map gR;rcases asc
 ·exact(RG _).trans (h.trans (RG _).symm)
 ·exact h
noncomputable def Gi(p:gW):ab cK:=(vl p.2).getD []
noncomputable def ixR(L:ab (ab cK))(p:gW):ae:=L.idxOf (Gi p)
theorem Mf(h:lN v=aa x):g9.keyOf v=aa x.toNat:=by
 show(lN v).map xt=_;rw[h];rfl
theorem QW:∀{rs:ab (ab ae)}{ks vs:ab ag},ks.map lN=rs.map (λr=>aa (bR (dK r)))->vs.map vl=rs.map (λr=>aa (gR r))->
  (ks.zip vs).map Gi=rs.map gR/\∀p∈ks.zip vs,vl p.2=aa (Gi p)/\g9.keyOf p.1=aa (W0 (Gi p))
 |[],[],[],i,j=>⟨rfl,λι h=>nomatch h⟩|r::rs,k::ks,v::vs,a,b=>by
  obtain⟨c,d⟩:=c7 a;obtain⟨v1,v2⟩:=c7 b;obtain⟨f,g⟩:=QW d v2;have e:Gi (k,v)=gR r:=by unfold Gi;rw[v1];rfl
  refine⟨?_,λp hp=>?_⟩
  ·simp only[ab.zip_cons_cons,dR,f,e,dR]
  ·rcases aG.mp hp with rfl|hp
   ·rw[e]
    refine⟨v1,(Mf c).trans ?_⟩;rw[pO];rw[cK.toNat_ofNat_of_lt' (by have:=zZ r;exact this)]
   ·exact g p hp
 |[],_::_,_,h,_=>nomatch h|[],[],_::_,_,h=>nomatch h|_::_,[],_,h,_=>nomatch h|_::_,_::_,[],_,h=>nomatch h
theorem Im(b:aE)(ks vs:ab ag):(iu b ks vs).toList=if b then(ks.zip vs).reverse else ks.zip vs:=by
 unfold iu;rcases b<;>simp
section
variable{asc:aE}{rs:ab (ab ae)}{ks vs:ab ag}
theorem F3(k:ks.map lN=rs.map λr=>aa (bR (dK r)))(v:vs.map vl=rs.map λr=>aa (gR r)):
  (iu (!asc) ks vs).toList.map Gi=qt asc rs/\∀p∈(iu (!asc) ks vs).toList,vl p.2=aa (Gi p)/\g9.keyOf p.1=aa (W0 (Gi p)):=by
 obtain⟨h,a⟩:=QW k v;rw[Im]
 induction asc with
 |true=>exact⟨h,a⟩|false=>exact⟨by show((ks.zip vs).reverse).map Gi=(rs.map gR).reverse;rw[gq,h],λp hp=>a p (gp.mp hp)⟩
theorem Io(n:(rs.map gR).Nodup)(k:ks.map lN=rs.map λr=>aa (bR (dK r)))(v:vs.map vl=rs.map λr=>aa (gR r)):Tail (ixR (qt asc rs)) (iu (!asc) ks vs) 0 vs.length:=by
 obtain⟨c,d⟩:=F3 (asc:=asc) k v;have lv:=by have:=aY km v;simpa using this
 have l:(qt asc rs).length=rs.length:=by unfold qt;rcases asc<;>simp
 have e:∀i,i<vs.length->IX (ixR (qt asc rs)) (iu (!asc) ks vs) i=i:=λi f=>by
  have h:i<(qt asc rs).length:=by lia
  have g:((iu (!asc) ks vs).toList.map Gi)[i]? =aa (qt asc rs)[i]:=by rw[c,az h]
  rw[cL,lr]at g;unfold IX
  induction q:(iu (!asc) ks vs)[i]? with
  |none=>rw[q]at g;exact nomatch g|some p=>
   rw[q]at g;show(qt asc rs).idxOf (Gi p)=i;exact(af g)▸(Ka n).idxOf_getElem i h
 intro i j a _ b;simp only[e i (g8 a b),e j b];exact a
theorem Ip{ps:Array gW}(n:(rs.map gR).Nodup)(f:ks.map lN=rs.map λr=>aa (bR (dK r)))(v:vs.map vl=rs.map λr=>aa (gR r))(hp:ps.Perm (iu (!asc) ks vs))(x:Lex g9 (ixR (qt asc rs)) ps vs.length):
  (if (!asc) then(ps.map (·.2)).reverse else ps.map (·.2)).toList.map vl=(iy asc rs).map λr=>aa (gR r):=by
 obtain⟨g,l⟩:=F3 f v;have lv:=by have:=aY km v;simpa using this
 have a:=Array.perm_iff_toList_perm.mp hp;have m:=λp h=>l p (a.mem_iff.mp h);have M:=g▸a.map Gi;have o:ps.size=vs.length:=by
  have:=M.length_eq;rw[b9]at this;have l2:(qt asc rs).length=rs.length:=by unfold qt;rcases asc<;>simp
  simp at this;lia
 have pw:(ps.toList.map Gi).Pairwise (Rl (qt asc rs)):=by
  rw[et,jn];intro i j q e d;have b:=by simpa using q
  have c:=by simpa using e
  have at_:∀k(h:k<ps.size),KK g9 ps k=W0 (Gi ps[k])/\IX (ixR (qt asc rs)) ps k=(qt asc rs).idxOf (Gi ps[k]):=λk h=>by
   unfold KK IX;rw[Array.getElem?_eq_getElem h];refine⟨?_,rfl⟩;show(g9.keyOf ps[k].1).getD 0=_;rw[(m ps[k] (Array.getElem_mem_toList h)).2];rfl
  have:=x i j d (Ry e o);unfold LT at this;rw[(at_ i b).1,(at_ j c).1,(at_ i b).2,(at_ j c).2]at this;refine this.imp (λh=>?_) id;exact eH h
 have e2:ps.toList.map (λp=>vl p.2)=(ZW asc rs).map aa:=by
  simp only[<-(uniq M (Me asc rs) pw (QV n)),fz];exact Mr λp h=>(m p h).1
 induction asc with
 |true=>
  show(ps.map (·.2)).toList.map vl=_;rw[RH,fz];refine e2.trans ?_;show((iy aq rs).map gR).map aa=_;rw[fz];rfl
 |false=>
  show(ps.map (·.2)).reverse.toList.map vl=_;simp only[Array.toList_reverse,RH,gq,fz];refine(aY ab.reverse e2).trans ?_;show(((iy ai rs).map gR).reverse.map aa).reverse=_;simp only[gq,ab.reverse_reverse,fz];rfl
end
section
variable{M:dZ}{A:aW}{E:ag->ah->Prop}{s:ah}{env:Env}
theorem AP{Q:ab ag->ah->Prop}(h:bk M A x (λv a=>bk M A (xy rest) (λvs b=>Q (v::vs) b) E a) E s):bk M A (xy (x::rest)) Q E s:=by
 rw[xy];exact aj (aI h (λv a c=>aj (aP (aI c (λvs b d=>aO d) λι ι x=>x))) λι ι x=>x)
theorem B4{Q:ab ag->ah->Prop}(h:bk M A (cn a env) (λv b=>bk M A (xy ((backToKw pos (V0 rest env)).map (·.2))) (λvs c=>Q (v::vs) c) E b) E s):bk M A (xy ((backToKw pos (V0 (⟨aa name,a,p⟩::rest) env)).map (·.2))) Q E s:=by
 show bk M A (xy ((do let v<-cn a env;ij pos;pure v)::(backToKw pos (V0 rest env)).map (·.2))) Q E s
 exact AP (aj (aI h (λv b d=>aj (a8 (aO d))) λι ι x=>x))
theorem Dy{Q:Args->ah->Prop}(l:e.all (·.1.isSome)=aq)(h:bk M A (oV ((ai,x)::rest)) (λvs a=>bk M A (xy (e.map (·.2))) (λks b=>Q ⟨vs,(e.filterMap (·.1)).zip ks⟩ b) E a) E s):bk M A (VG f aq ((ai,x)::rest) e) Q E s:=by
 refine aj (aI h (λvs a c=>?_) λι ι x=>x);refine aP ?_;simp only[l,AW];exact aj (aI c (λks b d=>aj (aO (aO d))) λι ι x=>x)
end
theorem F4:∀{rs:ab (ab ae)}{vs:ab ag},Rep X ρ h (dq rs) .none vs->vs.map vl=rs.map λr=>aa (gR r)
 |[],vs,e=>by
  have:vs=[]:=e;subst this;rfl
 |r::rs,vs,⟨u,us,e,⟨t,a⟩,b⟩=>by
  subst e;subst a;simp only[dR,dR,F4 b];rfl
theorem F5:∀{rs:ab (ab ae)}{vs:ab ag},(vs.map vl=rs.map λr=>aa (gR r))->Rep X ρ h (dq rs) .none vs
 |[],[],a=>rfl|[],_::_,e=>nomatch e|_::_,[],e=>nomatch e|r::rs,v::vs,e=>by
  obtain⟨e1,e2⟩:=c7 e;refine⟨v,vs,rfl,?_,F5 e2⟩
  induction v with
  |bytes b t=>
   refine⟨t,?_⟩;have e1:=e1;have:b.toList=gR r:=af e1;show jX b t=jX (gR r).toArray t;rw[<-this]
  |_=>exact nomatch e1
theorem F6:∀rs:ab (ab ae),w' (dq rs)
 |[]=>trivial|_::rs=>F6 rs
section
variable{G:Gm}{K:jT}{T:Tab}{mm n:ae}{k:Kf}{σ:St}{r:Rec}{sc:Sc}{re:aX}{env:Env}
noncomputable def rvN:Str:=aL "reverse"
def tR(a:Gm)(d:ae)(v:Env)(p:Pos)(g:Pos)(j:Pos)(N:aQ)(s:ab (ab ae))(u:aE)(A:aW):Prop:=∀{K:jT}{T:Tab}{mm:ae}{k:Kf}{σ:St}{r:Rec}{sc:Sc}{re:aX}(H:qT a K T mm)(D:HX a.w a.X)(I:gw a r d)(R:cB a k v sc re)(S:SR a k σ)(F:v.code=.ref A5)(J:v.qual=(dT 195).name++".<locals>."){c f:Str}{i l:Pos}{x:ae}{m:V}(e1:r.ev sc (.Name c i) re σ=aa (.bi 7,σ))(e2:r.ev sc (.Name f l) re σ=aa (.a4 x,σ))(L:σ.t.get x=aa (.list (dq s)))(e3:r.ev sc N re σ=aa (.bool (!u),σ))(O:c0 re nK=aa m)(z:v.kindOf t6=aa .cell)(P:(s.map gR).Nodup)(C:s.length<64)(y:∀o∈s,∃b,r.ev WY (HB eD) [(nR,.eN o),(nK,m)] σ=aa (.eN [b],σ)/\bR b=bR (dK o)){Q:ag->ah->Prop}{E:ag->ah->Prop}(U:el A (d+2))(q:∀(k' :Kf)(B:aB)(ws:ab ag)(e:ae),Le k k'->SR a k' σ->k.h.get? B=aw->¬adr k'.ρ B->a.X.h0.get? B=aw->k'.h.get? B=aa (fj "list" ws.toArray e)->ws.map vl=((iy u s).map λr=>aa (gR r))->Q (.ref B) (sh a.b k')),bk (Md a.w) A (cn (.Call (.Name c i) [.Name f l] [⟨aa t6,eD,g⟩,⟨aa rvN,N,j⟩] p) v) Q E (sh a.b k)
def z0:=λx:((_×_)×_×_×_)×(_×_)×_×_×_=>tR x.1.1.1 x.1.1.2 x.1.2.1 x.1.2.2.1 x.1.2.2.2 x.2.1.1 x.2.1.2 x.2.2.1 x.2.2.2.1 x.2.2.2.2
def gS:=haveI:=Am;haveI:=eI;qy bB z0
namespace z3
def a:=gS.1.1.1
def d:=gS.1.1.2
def v:=gS.1.2.1
def p:=gS.1.2.2.1
def g:=gS.1.2.2.2
def j:=gS.2.1.1
def N:=gS.2.1.2
def s:=gS.2.2.1
def u:=gS.2.2.2.1
def A:=gS.2.2.2.2
theorem ok:tR a d v p g j N s u A:=by
 intro K T mm k σ r sc re H HG I R S hc hq sN fN sp fp x kv e1 e2 hl e3 hk hkd nd h64 W Q E RA q;have Rn:=RA.less (bp d 2);rw[xT];refine aj (I.ev R _ _ e1 S A _ E Rn λf1 k₁ l1 X r1=>?_);have hb:=r1.trans (H.bi 7);clear r1;subst hb;refine j3 rfl (Wg "sorted") ?_;refine Dy rfl ?_;refine mS (I.ev (R.mono l1) _ _ e2 X A _ E Rn λu2 k₂ l2 Y r2=>?_) rfl;refine n7 ?_;obtain⟨pp,hpp,rfl⟩:=r2;have CU:=(R.mono l1).mono l2;obtain⟨c,cv,Z,hci,rk⟩:=CU.qR t6 nK kv WZ hk (.inl hkd);have O:=CU.cells (t6,c) (mem_of_lookup Z);refine B4 (O5 HG Y CU hc hq Z λac7 F Tp code pm l3 Hg dF hF nF w hcr=>?_);refine B4 (I.ev (CU.mono l3) _ _ e3 Hg A _ E Rn λu4 C P ZX r4=>?_);have r4:=r4;subst r4;refine aT (aH ⟨ZX.base,?_⟩);obtain⟨p4,hp4,_,vs,nn,hlen,adW,aeb,adX⟩:=ZX.objs x _ hl;have adY:=af (hp4.symm.trans (P.get (l3.get hpp)));subst adY;have hv:=F4 adX;have lv:=by have:=aY km hv;simpa using this
 have D: ¬adr C.ρ code:=by
  obtain⟨c',oc,_,_,e,ho,_⟩:=hcr;injection e with e;subst e
  exact P.off ho w
 have U:=l3.trans P;have L:=U.oB O.2.1 gL hci;have nc4: ¬adr C.ρ c:=by obtain⟨o,ho,_⟩:=hci;exact U.off ho O.2.1
 have mp:∀ks:ab ag,ks.map lN=(s.map λr=>bR (dK r)).map aa->ks.map lN=s.map λr=>aa (bR (dK r)):=λks h=>by rw[h,fz];rfl
 refine HA (m:=d+1) ZX (l:=p4.1) (f:=F) (vs:=vs) ⟨_,adW,rfl,nn,rfl⟩ (lt_of_eq_of_lt lv h64) (by rw[b9,lv]) (λks h=>Io nd (mp ks h) hv)
  (λi x y k5 l5 S5 hx hy A' Q' E' RA' q' =>?_) ⟨RA.handled,by have:=RA.depth;exact ae.lt_of_succ_lt this,by have:=RA.units;show A.units+1+1+16*(d+1)<_;lia⟩ λk6 ks st' B e hks l6 S6 dB nB zB perm lex hB=>?_
 ·have hi:=by exact lv▸(aV.mp hx).1
  obtain⟨b,hr,hbh⟩:=W s[i] (lW hi);rw[cL,az hi]at hy;have J:=by
   have:=aY (λl=>l[i]?) hv;simp only[cL,hx,az hi,ao.map_some]at this;exact af this
  have rx:RV a k5 (.eN s[i]) x:=by
   induction x with
   |bytes bb t=>
    refine⟨t,?_⟩;have J:=J;have:bb.toList=gR s[i]:=af J;show jX bb t=jX (gR s[i]).toArray t;rw[<-this]
   |_=>exact nomatch J
  refine QT H I S5 (l5.keep F _ (P.keep F _ hF nF gL) (P.off hF nF) gL) (CodeRec.grow (CodeRec.grow hcr w P) D l5) (l5.oB nc4 gL L) (by obtain⟨o,ho,_⟩:=L;exact l5.off ho nc4) O.2.2.1 ((rk.mono U NT.nil).mono l5 NT.nil) rx hr RA' λz k7 l7 S7 rz=>?_
  obtain⟨t,rfl⟩:=rz;refine q' _ k7 ?_ l7 S7;show aa (bR b)=aa y;rw[hbh,(af hy:bR (dK s[i])=y)]
 ·have l0:Le k C:=((l1.trans l2).trans l3).trans P
  refine q k6 B _ e (l0.trans l6) S6 (gI l0.live dB) nB zB (by rw[Array.toArray_toList];exact hB) ?_
  exact Ip nd (mp ks hks) hv perm lex
end z3
theorem Mg:tR G n env p a b e rs asc A:=@d5 _ _ z0 @z3.ok (((G,n),env,p,a),(b,e),rs,asc,A)
end
theorem bY.more(l:bY ρ h b h' xs)(c:h.get? p.1=aw)(f:h.get? p.2=aw):bY ρ h (b++[p]) h' xs:=by
 obtain⟨⟨q,e,d⟩,k,lv⟩:=l;refine⟨⟨q++[p],by rw[e,eo],λx a=>?_⟩,k,lv⟩
 rcases bE.mp a with a|a
 ·exact d x a
 ·rw[aJ]at a;subst a;exact⟨c,f⟩
def cst(qz:aX)(a:St)(re1:aX)(σ1:St)(re:aX):Rm (Fl×aX):=λσ=>@ite _ (re=qz/\σ=a) (Ah _) (aa ((.next,re1),σ1)) aw
theorem ZY(qz re1:aX)(a σ1:St):cst qz a re1 σ1 qz a=aa ((.next,re1),σ1):=bc ⟨rfl,rfl⟩
def z4:cF:=iM ((bT 196).body.drop 1)
def Iq:ab cF:=vE z4
def QX:cF:=iM (bT 196).body
def QY:cF:=iM ((bT 196).body.drop 2)
noncomputable def eN6:aQ:=kwV ((clK (i5 (iM Iq))).drop 1)
noncomputable def W3:Str:=aL "found"
noncomputable def sN6:Str:=aL "sorted"
def nF:ae:=enc W3
theorem Vx:Iq=[.Assign [.Name W3 ⟨1237,8,1237,13⟩] (.Call (.Name sN6 ⟨1237,16,1237,22⟩) [.Name W3 ⟨1237,23,1237,28⟩] [⟨aa t6,eD,⟨1237,30,1237,65⟩⟩,⟨aa rvN,eN6,⟨1237,67,1237,85⟩⟩] ⟨1237,16,1237,86⟩) ⟨1237,8,1237,86⟩]:=⋯
theorem Vy:(bT 196).body=[QX,.For (.Name t6 ⟨1236,8,1236,11⟩) (i5 z4) Iq [] ⟨1236,4,1237,86⟩,QY]:=⋯
section
variable{G:Gm}{K:jT}{T:Tab}{mm n:ae}{k:Kf}{σ:St}{r:Rec}{sc:Sc}{re:aX}{env:Env}
theorem Vz(H:qT G K T mm)(F:HX G.w G.X)(I:gw G r n)(J:env.code=.ref A5)(L:env.qual=(dT 195).name++".<locals>."){qz:aX}{a:St}{x:ae}{rs:ab (ab ae)}{asc:aE}{j:V}(e1:r.ev sc (.Name sN6 ⟨1237,16,1237,22⟩) qz a=aa (.bi 7,a))(e2:r.ev sc (.Name W3 ⟨1237,23,1237,28⟩) qz a=aa (.a4 x,a))(M:a.t.get x=aa (.list (dq rs)))(e3:r.ev sc eN6 qz a=aa (.bool (!asc),a))(N:c0 qz nK=aa j)(f:env.kindOf t6=aa .cell)(O:(rs.map gR).Nodup)(g:rs.length<64)(u:∀d∈rs,∃b,r.ev WY (HB eD) [(nR,.eN d),(nK,j)] a=aa (.eN [b],a)/\bR b=bR (dK d))(P:ip sc W3=aa nF)(U:((a.t.set a.n (.list (dq (iy asc rs)))).get a.n).isSome=aq)(R:cB G k env sc re):
  cU G (n+2) (cy env) k σ (cst qz a (jY qz nF (.a4 a.n)) ⟨a.t.set a.n (.list (dq (iy asc rs))),ar a.n⟩ re) (RF G env sc) (eY Iq env):=λy τ he S A Q E m q=>by
 have he:@ite _ (re=qz/\σ=a) (Ah _) (aa (((.next,jY qz nF (.a4 a.n)):Fl×aX),(⟨a.t.set a.n (.list (dq (iy asc rs))),ar a.n⟩:St))) aw=aa (y,τ):=he
 by_cases c:re=qz/\σ=a
 ·rw[bc c]at he
  obtain⟨rfl,rfl⟩:=c
  cases he
  rw[Vx];refine ek (j4 (Mg H F I R S J L e1 e2 M e3 N f O g u m λk' B ws e l W s z C hB D=>?_) rfl rfl);show bk _ _ (fx (.Name W3 ⟨1237,8,1237,13⟩) env (.ref B)) _ _ _;have lw:ws.length=rs.length:=by
   have:=aY km D;rw[b9,b9,(vm asc rs).length_eq]at this;exact this
  have nt:∀us,¬k'.h.IsTuple B us:=λus⟨o,Y,i,_⟩=>by cases hB.symm.trans Y;simp at i
  obtain⟨hp,Z⟩:=h5.label (p:=(B,B)) (o:=.list (dq (iy asc rs))) W U z z C C nt nt ⟨_,hB⟩ ⟨_,hB⟩ λup=>⟨rfl,ws,e,by lia,hB,F6 _,F5 D⟩
  have l2:Le k ⟨k'.ρ++[(B,B)],k'.h,k'.tk⟩:=bY.more l s s;refine lL (G:=G) (n:=n+2) (k:=⟨k'.ρ++[(B,B)],k'.h,k'.tk⟩) (v:=.a4 σ.n) xF.all P (R.mono l2) ⟨(B,B),hp,rfl⟩ _ _ rfl Z A _ E m λι k3 g3 S3 R3=>?_;exact gQ (q .next k3 (l2.wk.trans g3) S3 ⟨R3,rfl⟩)
 ·rw[aU c]at he;exact nomatch he
theorem Dz{j:aX->Rm (Fl×aX)}(w:cU G n (cy env) k σ i (RF G env sc) (oW m env))(y:∀{re1 o σ1},cB G o env sc re1->cU G n (cy env) o σ1 (j re1) (RF G env sc) (eY l env)):
  cU G n (cy env) k σ (b8 i λp=>gP p j) (RF G env sc) (eY (m::l) env):=λx τ e S A Q E s q=>by
 obtain⟨⟨t,re1⟩,b,e1,e2⟩:=br e;refine ek (w (t,re1) b e1 S A _ E s λf k₁ g a c=>?_);obtain⟨R,c⟩:=c
 induction t with
 |next=>
  have c:f=.next:=c;subst c;exact y R x τ e2 a A Q E s λf d h=>q f d (g.trans h)
 |ret v=>
  cases e2
  obtain⟨u,rfl,z⟩:=c;exact q (.ret u) k₁ g a ⟨R,u,rfl,z⟩
end
theorem ad0(P:bZ):(sd P (oH 196)).data=.func (fF P 196)/\(fF P 196).code=.ref A5/\(fF P 196).qualname=(dT 195).name:=⟨⋯,⋯,⋯⟩
theorem acr(H:HX G.w G.X)(F:FnAt G 196 f o d):d.code=.ref A5/\d.qualname=(dT 195).name:=by
 obtain⟨h,b⟩:=ad0 G.w.params;have a:=F.at_;rw[H.jV,H.h0]at a;have e:=F.data;rw[<-af ((y6 (OS 196)).1.symm.trans a),h]at e;rw[<-Data.func.inj e];exact b
abbrev Gj:Sc:=(bT 196).sc
abbrev rI:Rec:=bg T0 13
abbrev rO:Rec:=bg T0 14
noncomputable def kL(asc:aE):MO:=.list (.cons (mI asc 2) .nil)
def rqA:aX:=[(enc (aL "rows"),.a4 0),(enc (aL "keys"),.a4 1)]
def ZZ:aX:=rqA++[(nF,.a4 3)]
def MG(asc:aE):aX:=ZZ++[(nK,mI asc 2)]
def Z0(asc:aE):aX:=jY (MG asc) nF (.a4 5)
section
variable(asc:aE)(L M:V)(f h:ae->ae)
def Z1(n:ae):St:=gN [.list (aC f n),kL asc,mH]
def s6B:St:=gN [.list L,kL asc,mH,.list L]
def vn:St:=gN [.list L,kL asc,mH,.list L,kL asc]
def QZ:St:=gN [.list L,kL asc,mH,.list L,kL asc,.list M]
theorem u1:((bh 13).map λn=>(iq Gj QX).f T0 rO rqA (Z1 asc f n))=(bh 13).map λn=>aa ((.next,ZZ),s6B asc (aC f n)):=⋯
theorem u2:la rO Gj (i5 z4) ZZ (s6B asc L)=aa (.kx 4 0,vn asc L):=⋯
theorem u3:fP (vn asc L) (.kx 4 0)=aa (aa (mI asc 2,.kx 4 1))/\d9 [nK] (.kx 4 1) (mI asc 2) ZZ=aa (MG asc):=⟨⋯,⋯⟩
theorem u4:fP (QZ asc L M) (.kx 4 1)=aa aw:=⋯
theorem u5:(iq Gj QY).f T0 rO (Z0 asc) (QZ asc L M)=aa ((.ret (.a4 5),Z0 asc),QZ asc L M):=⋯
theorem u6:(⟨(vn asc L).t.set (vn asc L).n (.list M),ar (vn asc L).n⟩:St)=QZ asc L M/\jY (MG asc) nF (.a4 (vn asc L).n)=Z0 asc/\(((vn asc L).t.set (vn asc L).n (.list M)).get (vn asc L).n).isSome=aq:=⟨⋯,⋯,⋯⟩
theorem vs1:rI.ev Gj (.Name sN6 ⟨1237,16,1237,22⟩) (MG asc) (vn asc L)=aa (.bi 7,vn asc L):=⋯
theorem vs2:rI.ev Gj (.Name W3 ⟨1237,23,1237,28⟩) (MG asc) (vn asc L)=aa (.a4 3,vn asc L)/\(vn asc L).t.get 3=aa (.list L):=⟨⋯,⋯⟩
theorem vs3:rI.ev Gj eN6 (MG asc) (vn asc L)=aa (.bool (!asc),vn asc L):=by
 cases asc
 ·kernel_rfl
 ·kernel_rfl
theorem v4:c0 (MG asc) nK=aa (mI asc 2)/\ip Gj W3=aa nF/\Gj.lookup t6=aa .cell/\dr Gj (.Name t6 ⟨1236,8,1236,11⟩)=aa [nK]:=⟨⋯,⋯,⋯,⋯⟩
theorem v5(a b c:ae):rI.ev WY (HB eD) [(nR,.eN [a,b,c]),(nK,mI asc 2)] (vn asc L)=aa (.eN [a],vn asc L):=⋯
theorem gc6:((bh 13).map λn=>p6 3 [5] (aa (.a4 5,QZ asc (aC f n) (aC h n))))=(bh 13).map λn=>aa (.a4 3,[.list (aC f n),kL asc,mH],[.list (aC h n)]):=⋯
end
theorem acs:(gh O0).fn 196=aa (bT 196):=⋯
theorem acu:hI (bT 196).params [.a4 0,.a4 1] (bT 196).lz=aa rqA:=⋯
def r6(asc:aE)(rs:ab (ab ae)):Rec:={rO with ex:=λι ι re=>cst (MG asc) (vn asc (dq rs)) (jY (MG asc) nF (.a4 (vn asc (dq rs)).n)) ⟨(vn asc (dq rs)).t.set (vn asc (dq rs)).n (.list (dq (iy asc rs))),ar (vn asc (dq rs)).n⟩ re}
def c63(re:aX):Rm (Fl×aX):=rt (.next,re)
def c62(re:aX):Rm (Fl×aX):=b8 ((iq Gj QY).f T0 rO re) λp=>gP p c63
def c61(asc:aE)(rs:ab (ab ae))(re:aX):Rm (Fl×aX):=b8 (b8 (la rO Gj (i5 z4) re) λi=>h6 (r6 asc rs) Gj [nK] Iq 3 i re) λp=>gP p c62
def c6(asc:aE)(rs:ab (ab ae))(re:aX):Rm (Fl×aX):=b8 ((iq Gj QX).f T0 rO re) λp=>gP p (c61 asc rs)
theorem Z2(b:n∈bh 13)(r:aC f n=dq rs):c6 asc rs rqA (Z1 asc f n)=aa ((.ret (.a4 5),Z0 asc),QZ asc (dq rs) (dq (iy asc rs))):=by
 have h:=a5 (u1 asc f) b;rw[r]at h;obtain⟨q,a,e⟩:=u6 asc (dq rs) (dq (iy asc rs));unfold c6;rw[cw h];show c61 asc rs ZZ (s6B asc (dq rs))=_;have c:(b8 (la rO Gj (i5 z4) ZZ) λi=>h6 (r6 asc rs) Gj [nK] Iq 3 i ZZ) (s6B asc (dq rs))=aa ((.next,Z0 asc),QZ asc (dq rs) (dq (iy asc rs))):=by
  rw[cw (u2 asc (dq rs))];have d:(r6 asc rs).ex Gj Iq (MG asc) (vn asc (dq rs))=aa ((.next,Z0 asc),QZ asc (dq rs) (dq (iy asc rs))):=by
   have:=ZY (MG asc) (jY (MG asc) nF (.a4 (vn asc (dq rs)).n)) (vn asc (dq rs)) ⟨(vn asc (dq rs)).t.set (vn asc (dq rs)).n (.list (dq (iy asc rs))),ar (vn asc (dq rs)).n⟩;rw[q,a]at this;show cst _ _ _ _ _ _=_;rw[q,a];exact this
  rw[pL (u3 asc (dq rs)).1 (u3 asc (dq rs)).2 d];exact rS (u4 asc (dq rs) (dq (iy asc rs)))
 unfold c61;rw[cw c];show c62 (Z0 asc) (QZ asc (dq rs) (dq (iy asc rs)))=_;unfold c62;rw[cw (u5 asc (dq rs) (dq (iy asc rs)))];rfl
theorem Mh{rs:ab (ab ae)}(d:∀r∈rs,r.length=3){r:ab ae}(h:r∈rs):∃a b c,r=[a,b,c]:=⟨_,_,_,vw r (d r h)⟩
theorem VA{asc:aE}{rs:ab (ab ae)}{f:ae->ae}{n:ae}(l:n∈bh 13)(m:aC f n=dq rs)(p:∀r∈rs,r.length=3)(d:rs.length<64)(s:(rs.map gR).Nodup):
  Good 129 196 [.a4 0,.a4 1] (Z1 asc f n) (.a4 5) (QZ asc (dq rs) (dq (iy asc rs))):=λG g us k u S A Q RA q=>by
 have H:qT G (kH G.w.params) T0 0:=eQ.TN g;have run:opt (hI (bT 196).params [.a4 0,.a4 1] (bT 196).lz) (λre=>b8 (c6 asc rs re) yo) (Z1 asc f n)=aa (.a4 5,QZ asc (dq rs) (dq (iy asc rs))):=by
  rw[acu];show b8 (c6 asc rs rqA) yo (Z1 asc f n)=_;rw[cw (Z2 l m)];rfl
 obtain⟨IO,U⟩:=pH H (b:=8) ⟨bj _,aF _⟩ 14;have I:=(CX H (b:=8) ⟨bj _,aF _⟩ 13).togw;refine Jz H (n:=36) acs (c:=c6 asc rs) (λ{o i L k₁ re σ}F R=>?_) u _ _ run S A Q (RA.less (by lia)) q
 obtain⟨t,v⟩:=acr g F;have j:(cW i L (G.X.jV 196)).kindOf t6=aa .cell:=by
  show i.scope.names.lookup t6=_;rw[F.Ti];exact(v4 asc).2.2.1
 rw[Vy];refine Dz (yY H IO U (by lia) R) λy=>Dz (Bi (r' :=r6 asc rs) H IO.togw (by lia) (λC=>?_) (v4 asc).2.2.2 y) λD=>Dz (yY H IO U (by lia) D) λJ=>λx τ e S A Q E RA q=>by
  cases e
  exact gQ (q .next _ (bY.refl _ _ _) S ⟨J,rfl⟩)
 have z:=u6 asc (dq rs) (dq (iy asc rs));exact Vz (n:=34) H g I t (by show i.qualname++_=_;rw[v]) (vs1 asc (dq rs)) (vs2 asc (dq rs)).1 (vs2 asc (dq rs)).2 (vs3 asc (dq rs)) (v4 asc).1 j s d (λM h=>by
  obtain⟨a,b,c,rfl⟩:=Mh p h;refine⟨a,v5 asc (dq rs) a b c,?_⟩;show bR a=bR (a% 256);apply RX.mp;simp) (v4 asc).2.1 z.2.2 C
theorem Mi{d:Type}{l:ab MO}{f:MO->MO->MO->ao d}{x:d}(h:three l f=aa x):∃a b c,l=[a,b,c]/\f a b c=aa x:=by
 rcases l with _|⟨a,_|⟨b,_|⟨c,_|_⟩⟩⟩
 any_goals exact b6 h
 exact⟨a,b,c,rfl,h⟩
noncomputable def ad1:ab cK->ae
 |_::a::b::_=>256*a.toNat+b.toNat|_=>0
theorem Q0(r:ab ae):HW r=ad1 (gR r):=by
 match r with
 |[]=>rfl|[c]=>rfl|[c,d]=>rfl|x::a::b::r=>
  show 256*(a% 256)+b% 256=256*(bR a).toNat+(bR b).toNat;simp
theorem VB{rs:ab (ab ae)}(h:Aj (rs.map HW)=aq):(rs.map gR).Nodup:=by
 have:=et.mp (mN h);exact et.mpr (this.imp λ{a b}ne e=>ne (by rw[Q0,Q0,e]))
noncomputable def acv(asc:aE)(l:V):ab MO:=[.list l,.list (.cons (mI asc 2) .nil),mH]
def W4(asc:aE)(rs:ab (ab ae)):OX:=(.a4 3,[],[.list (aC (f' (iy asc rs)) rs.length)])
theorem Q1{a b c:MO}{K q:ae}{asc:aE}{x:OX}{τ:St}(d:(gN [a,b,c]).t.get K=aa (.list (.cons (mI asc q) .nil)))(e:(gN [a,b,c]).t.get q=aa mH)(run:WD K q asc (gN [a,b,c])=aa (x,τ)):
  ∃l rs,q7 l=aa rs/\rs.length<=12/\Aj (rs.map HW)=aq/\K=1/\[a,b,c]=acv asc l/\x=W4 asc rs:=by
 obtain⟨e0,r⟩:=hV (b:=au K 1) run;obtain⟨e1,g⟩:=hV (b:=au q 2) r;obtain⟨l,i,j⟩:=vj (n:=0) (f:=λl=>opt (q7 l) (WC asc)) g;obtain⟨rs,k,m⟩:=Dp (o:=q7 l) j;obtain⟨si,p⟩:=hV (b:=cf (AK rs) 12) m;obtain⟨h,r6⟩:=hV (b:=Aj (rs.map HW)) p
 replace e0:=ay e0
 rw[e0,ay e1]at d;rw[ay e1]at e;exact⟨l,rs,k,rW rs▸bx si,h,e0,by rw[some_inj (show aa a=_ from i),some_inj (show aa b=_ from d),some_inj (show aa c=_ from e)];rfl,by rw[<-(av (some_inj r6)).1,rW];rfl⟩
theorem Q2{as:ab V}{mu:ab MO}{x:OX}(h:Ur as mu=aa x):∃asc l rs,q7 l=aa rs/\rs.length<=12/\Aj (rs.map HW)=aq/\as=[.a4 0,.a4 1]/\mu=acv asc l/\x=W4 asc rs:=by
 obtain⟨a,b,c,e1,h⟩:=Mi h;obtain⟨τ,h⟩:=Dv h;obtain⟨x1,e,e2,h⟩:=zW h;obtain⟨e3,h⟩:=rY (v:=x1) h;obtain⟨K,q,asc,h⟩:=vg h;obtain⟨l,rs,d,si,n,e5,e6,e7⟩:=Q1 h.keys h.shape h.run;exact⟨asc,l,rs,d,si,n,by rw[e2,e3,h.eq,e5],e1.trans e6,e7⟩
theorem Mj(q:q7 l=aa rs)(si:rs.length<=12)(n:Aj (rs.map HW)=aq):
  ∃ks v a t0,qX [.list l,.list (.cons (mI asc 2) .nil),mH] .nil 0=aa t0/\Good 129 196 [.a4 0,.a4 1] ⟨t0,3⟩ v a/\p6 3 ks (aa (v,a))=aa (.a4 3,d6 [] [.list l,.list (.cons (mI asc 2) .nil),mH],[.list (aC (f' (iy asc rs)) rs.length)]):=by
 obtain⟨g1,_⟩:=tQ q;obtain⟨rfl,c⟩:=BX q;have d:rs.length∈bh 13:=da (ew si);have g:aC (f' rs) rs.length=dq rs:=oQ c;have b:aC (f' (iy asc rs)) rs.length=dq (iy asc rs):=by
  rw[<-(vm asc rs).length_eq];exact oQ λr h=>c r ((vm asc rs).mem_iff.mp h)
 have i:=a5 (gc6 asc (f' rs) (f' (iy asc rs))) d;have j:=VA (asc:=asc) (f:=f' rs) d g c (cD si (by decide)) (VB n)
 rw[g,b]at i;have e:Z1 asc (f' rs) rs.length=⟨Ge [.list (dq rs),.list (.cons (mI asc 2) .nil),mH],3⟩:=by
  unfold Z1;rw[<-g1];kernel_rfl
 rw[e]at j;exact⟨[5],.a4 5,_,Ge [.list (dq rs),.list (.cons (mI asc 2) .nil),mH],⋯,j,by rw[b];exact i⟩
theorem VC:FOK 129 196 Ur:=λas mu v ups nw h=>by
 obtain⟨asc,l,rs,a,si,n,rfl,rfl,e⟩:=Q2 h;clear h;obtain⟨rfl,q⟩:=av e;obtain⟨rfl,rfl⟩:=av q;exact Mj a si n
end
end M.Internal
set_option tactic.hygienic false
theorem PySem.Challenge.cw_pq0661_01_holds : PySem.Challenge.rw_pq0661_01.Holds :=
 M.Internal.Il λis ι=>M.Internal.Vs (M.Internal.Vv M.Internal.VC) is
