import PyProof.Rows.All
import Wide.All
import OpenK.AllK
import Wide.FinOn
import KE.KNest
import OpenK.KMeth
import Wide.BytesRules
import Open.Split
import KE.KxBytes
import Lean
import PySem.Challenge.RW_pq1224_01
open And renaming imp_left->jr,intro->w8,imp_right->B5,right->qfl
open Array renaming getElem?_eq_some_iff->lM,getElem?_eq_getElem->l7,getElem?_setIfInBounds_self_of_lt->qd,findIdx?_eq_some_iff_getElem->sD,size_push->w7,toList_append->FQ,empty_append->HA,size_modify->HN,mk->Oq
open Bool renaming true->ah,false->ao,and_eq_true_iff->aQ,false_eq_true->bE,and_eq_true->bG,not_eq_true'->dC,or_true->oI,not_true->sG,not_eq_true->vB,and_false->yO,or_false->Ap,or_eq_false_iff->FN,false_ne_true->HT,false_and->Ql,true_and->Ug
open Classical renaming byContradiction->qfp
open Decidable renaming not_not->qfu
open Eq renaming trans->ig,refl->qa0
open Exists renaming imp->cR
open False renaming elim->cq
open ForInStep renaming yield->mS
open Iff renaming rfl->fq
open Int renaming natCast_nonneg->aD,ofNat_lt->aF,not_lt->bO,toNat_natCast->bS,ofNat_le->bY,ofNat_sub->cJ,eq_ofNat_of_zero_le->c6,natCast_pow->lj,le_trans->lG,ofNat->lV,add_sub_cancel->l9,fmod_eq_emod_of_nonneg->ma,natCast_mul->qe,one_mul->rk,lt_of_lt_of_le->tO,add_zero->uO,le_of_eq->uP,add_comm->uQ,le_refl->xi,mul_one->xj,add_assoc->BZ,lt_irrefl->B0,zero_add->DK,zero_mul->DL,sub_self->DM,sub_nonneg_of_le->Ho,le_of_sub_nonneg->Hp,not_le->Ll,natCast_sub->Qo,add_nonneg->T3,mul_nonneg->T4,mul_zero->ZE,sub_zero->ZF,add_mul->qaL,neg_mul->qaM
open Int.Internal.Linear renaming Expr->K4
open Int.ofNat renaming inj->gm
open List renaming length_append->aj,append_assoc->ax,getElem?_eq_getElem->aI,replicate->aS,mem_cons->aV,getD_eq_getElem?_getD->aW,length_map->a3,all_eq_true->a4,mem_append_right->a5,size_toArray->a9,getElem?_eq_some_iff->bg,contains_iff_mem->bk,mem_append_left->bB,append_nil->bD,getElem?_append_left->bF,length_cons->bQ,map_cons->bW,singleton_append->cj,length_take->cA,length_set->cG,map_append->cN,nodup_cons->cO,mem_of_elem_eq_true->cY,perm_append_comm->cZ,take_append_drop->dn,getElem?_eq_none->dp,mem_of_getElem?->dv,perm_middle->dw,getElem?_map->dD,lookup_cons->dN,take_length->dP,getElem_idxOf->dQ,mem_map->dW,idxOf_lt_length_iff->dX,replicate_succ'->d8,eq_nil_of_length_eq_zero->d9,append_toArray->eH,range->fc,contains_cons->fe,getElem?_append_right->fh,foldl_append->fE,getElem?_take_of_lt->fJ,getElem_mem->f6,cons_append->f7,getElem?_set_ne->gV,length_replicate->jE,length_drop->jI,map_nil->ly,countP_cons->nW,map->nY,getElem?_set_self->oJ,countP_le_length->qc,take_nil->sH,zip_cons_cons->sU,findIdx?_eq_some_iff_getElem->tW,any_eq_false->ux,take_add_one->uA,map_map->uD,set_set->uE,ext_getElem?->uF,isEmpty_iff->vz,forIn_cons->xl,perm_append_comm_assoc->xW,getElem?_concat_length->xX,drop_eq_getElem_cons->z7,map_take->As,any_nil->Cm,take_eq_take_min->DX,forall_mem_cons->FL,lookup->FT,replicate_zero->Hz,mem_singleton->HU,map_inj_left->Lb,isEmpty_cons->Li,not_mem_nil->LX,mem_append->Oo,range_succ->Ot,set_comm->Uk,foldl->qaR
open List.Perm renaming append_right->eA,swap->gD,trans->ia,cons->iQ,append_left->i8,refl->qfv
open List.cons renaming inj->lN
open Nat renaming le_of_ble_eq_true->aa,sub_add_cancel->ay,le_trans->az,le_refl->aA,lt_of_lt_of_le->aJ,succ_pos->aN,le_add_right->aU,lt_trans->aZ,lt_of_le_of_lt->a7,le_of_not_lt->a8,mod_lt->bA,lt_succ_self->bH,eq_of_beq_eq_true->bK,le_of_lt->bM,beq->b0,div_add_mod->cu,pow_le_pow_right->cI,zero_le->cM,sub_self->cS,pow_succ->c3,ble->c7,div_div_eq_div_mul->df,mul_le_mul_left->dj,sub_le->dk,add_lt_add_left->dm,le_add_left->dG,div_eq_of_lt->dS,add_comm->eO,mul_comm->eQ,lt_of_succ_lt_succ->eR,pow_zero->fF,add_le_add_left->f5,div_mul_le_self->f9,div_le_self->gE,mul_assoc->gF,pow_pos->g9,div_lt_of_lt_mul->hG,blt->iu,not_lt_of_le->iy,not_lt_zero->iS,add_sub_cancel_left->i9,le_of_eq->jt,succ_lt_succ->jX,add_assoc->kh,mul_le_mul_right->kq,div_one->ku,pow_add->kx,min_eq_left->lh,sub_zero->lI,lt_succ_of_lt->mQ,lt_irrefl->nB,min_le_right->oi,not_le_of_lt->om,mod_eq_of_lt->oq,zero_add->pJ,le_add_right_of_le->pK,pos_of_ne_zero->tY,ne_of_lt->uR,lt_succ_of_le->uU,succ_ne_zero->w9,lt_of_not_le->xa,add_mul->xk,le_antisymm->xT,add_zero->DZ,div->D0,mul_mod_mul_right->FP,casesOn->Hn,add_right_comm->K6,sub_right_comm->Lo,lt_of_succ_lt->LW,mod->L4,succ_le_of_lt->L5,succ_le_succ->OD,ne_of_gt->ZG,beq_refl->ZN,lt_or_ge->ZX,mul_one->qaU,sub_sub->qaV,one_mul->qaW,mul_add->qaX,not_lt->qeR
open Nat.succ renaming inj->gN
open Option renaming some->ae,none->aq,map_eq_some_iff->c9,bind_eq_some_iff->ez,isSome->gx,isSome_iff_exists->mn,map_some->oj,isSome_none->FK,isSome_some->FO
open Option.some renaming inj->eV
open PUnit renaming unit->sI
open Prod renaming ext->qfe,rec->qfk
open Prod.mk renaming inj->cW
open Pure renaming pure->cg
open PyProof.Rows renaming subscriptTail->du,joinParts_cons->nH,FormattedValue_plain->tX,joinParts_consE->B8,IntsAre->Cn,formatField_int_small->LZ,assignInOrder_cons->Un,iadd_int->qaf,isub_int->qag,ilshift_int_small->qah,irshift_int->qai,ior_int->qaj,call_len_slot->qam,list_addW->qap,add_int->qaq,sub_int->qar,mul_int->qas,mod_int->qat,lshift_int_small->qau,rshift_int->qav,or_int->qaw,and_int->qax,eq_int->qay,ne_int->qaz,lt_int->qaA,le_int->qaB,gt_int->qaC,ge_int->qaD,eq_str->qaE,ne_str->qaF,len_tuple->qaG,letGo_tupleiter->qaH,rangeSize_nat->qff
open PySem renaming wpAny_bind->ak,wpAny_pure->au,wpAny->aC,Shared->aE,Value->aG,builtinLookup_eq_fast->a0,Addr->br,sizeLine_eq->bw,model->bx,typeLookup_type->bC,Str->bI,strLen_append->cv,Params->cz,typeLookup->cD,wpAny_holding->cL,wpAny_mono->cP,Around->c5,starEach->de,Builtin->dr,checkBuiltinCall->eu,mainGlobals->eD,newFunctionEnv->eE,isSubtype_type->eF,entryFor_of_tree->fw,Obj->fy,rawInt->fC,backTo->fD,specialOf->fQ,storeName->gy,wpAny_call_entry->gz,isSubtype->gB,Stmt->gK,letOwnedTupleGo->gR,OsState->hZ,wpAny_truthy_bool->ic,entryFor->iG,isInstance->iH,compEnvC->iI,holding->iO,World->iU,call->i5,arm_eval_Call_Name'->i6,callWith->jc,StrKeys->jj,assign->jq,unsupported->jx,nsFind->jV,wpAny_newObj_type->j0,getMethod_builtin->j3,constantsAlone->j4,wpAny_setField->j7,Scope->kE,getMethod->k9,compareOp->la,isTrue->lg,intKind->lA,signature?_of->lC,foldedForSure->lD,wpAny_loadName_local->lH,sizeLine->lJ,CmpOp->lK,wpAny_letTemporaryGo->lL,standAt->mL,inplaceOp->mP,setFlight->mR,argsOk->nC,typeOf->nD,typeIs_int->nF,mem_of_lookup_some->nG,setItem->oA,execs->oB,table->oC,classAt->oD,Program->oE,wpAny_field->oF,wpAny_of_eq->oG,foldedSetIterable->oH,Comprehension->pG,assignInOrder->pH,swappedStores->pI,wpAny_lookBehind->qq,wpAny_callSpecial?_slot->qs,noteFrame->qu,bindArgs->qv,binaryOp->qw,TriplesOk->qx,codeAmong->qy,Operator->qz,Sem->qD,wpAny_Name->rl,getAttr->rn,wpAny_load->rp,callSpecial?->rq,getItem->ru,assignEach->rx,theTreesLotGoes->rD,wpAny_alloc->tP,excClassObj->tR,wpAny_bindName->tS,lookup_relabel_local->tZ,spliced->uy,raiseStmt->uC,plainId_quiet->vA,Keyword->xP,evalArgs->xQ,mroOf->xR,wpAny_typeOf->xS,wpAny_loadPart_at->xU,Arguments->zS,pastItsLine_dict->zT,Result->zU,DictEntry->zV,pyIter->z0,wpAny_isInstance->z4,seqIndex?->z5,opaqueClassAbove->z6,leftWithCleanup_false_of_bare->Ao,wpAny_fresh->Aq,subscripted->Ar,storeName_local->B1,leftWithCleanup->B2,Heap->B3,wpAny_specialOf->B4,callAny->Ck,Env->DO,wpAny_loadPart->DP,sysModules->DR,wpAny_rule->DS,wpAny_call->DU,truthy->DV,methodCallForm->DW,bound->DY,NameKind->D1,wpAny_standAt->Hr,checkTypeCall->Hs,behindInMarks->Hu,wpAny_getItem_list_slice->Hv,wpAny_release->Hw,Model->HO,swapsWith->HP,markedBehindIn_of_false->HR,bootBuiltins->K5,setAttr->K7,Flow->La,codeAny->Lc,wpAny_update->Le,mkBytes->Lf,callType_new->Lg,allTrue->Lh,codeAny_handlers_suite->Lp,relabel->Lq,getitemInPython_of_ne->LU,codeAny_handlers_test->L6,keeperOf->Ow,bindName->Oy,IntMulOk->OA,evalEach->OB,codeAny_call_builtin->OC,builtinType_eq_fast->Qh,list_getitem_lookup->Qi,wpAny_loadName_cell->Qk,wpAny_isSubtype_exc->Qm,wpAny_handleBy_cons->Qp,findBy_of_findIdx?->T5,newEnv->T7,cameBackBy->T9,callMarked->Ua,Slot->Ub,pyNext->Ue,wpAny_getItem_list->Uh,wpAny_assign_Tuple->Uj,int_text_length_le->Ul,closureFor->Um,wpAny_sequenceKey->UT,slot_dict_setitem->UU,slot_list_setitem->UW,callerA->UX,asItWas->UY,field->U0,BindsTo->U1,fastTable_eq_tree->U3,wpAny_forIn_list->ZJ,treeTable->ZL,PassesOwn->ZM,wpAny_enterFrame->ZP,lastMarks->ZV,slot_list_append->ZW,importedModules->qaN,updateBytearray->qaO,codeAny_builtin->qaP,wpAny_operating->qaS,arm_exec_Assign->qaT,forIn_yield_id->qeS,recursionLimit->qeV,withoutEnding?->qeW,entry_typeCall->qeX,eval_Subscript->qeY,sliceRange_one->qeZ,letTemporaryGo->qe0,refuseLoop_ref->qe1,runValue->qfa,findBy_modify->qfd,call_list_seq->qfg,methodCallPos->qfh,wpAny_onRaise->qfi,swapsWithSole->qfj,comprehension->qfm,eval_ListComp->qfn
open PySem.Around renaming frames_deeper->fz,under_plainId->jH
open PySem.AutoListH renaming list___mul___list_int_3->qfr
open PySem.BindsTo renaming of_defaults->fI,of_eq->xV
open PySem.Builtin renaming bitAnd->aO,bitOr->dM,bitNot->Lk
open PySem.Builtin.BaseException renaming bexcPut->Hy
open PySem.Builtin.Bytes renaming subscript?->eY,fitsIndex->fx,slotIsOwn->fR,sliceParts->kp,buffer?->l8,sliced->mM,write->nE,decodersThatHold->qt,checkResize->sR,repeatArgs->tU,payload->uz,repeated->uS,payload->vC,checkResize->Ox,ownRelease->Ud,byteValue->ZQ,takeBufferQuiet?->ZR,lengthHint->ZS,newBytearray->ZT,tooLong->ZU,exported->qfb
open PySem.Builtin.Dict renaming notOrdered->qak
open PySem.Builtin.Getset_descriptor renaming descrGetArgs->B6
open PySem.Builtin.Int renaming intBits->fA
open PySem.Builtin.List renaming listSubscript?->qal,listFitsIndex->qan,listTooLong->qao
open PySem.Builtin.Range renaming rangeSize->cV,small->fp
open PySem.Calls renaming Constant_str->Lj,Name_function_global->Oj
open PySem.Code renaming builtin->gw,quiet_builtin->iV
open PySem.DictEntry renaming refKey->DN
open PySem.EntryCells renaming newEntry->z8
open PySem.Env renaming kindOf->qeT
open PySem.ExcName renaming means->qE
open PySem.Flow renaming next->LY
open PySem.Heap renaming get?_update_self->bj,get?_push_of_some->cH,lt_size->lr,SameBut->lu,size_push->lU,get?_push_size->rC,ExtBut->FJ,get?->qeU
open PySem.Heap.IsSliceOf renaming new->nX
open PySem.Heap.SameBut renaming update->bu
open PySem.Meets renaming of_wp->U2
open PySem.MeetsSeq renaming EqGives->sT
open PySem.MeetsSeq.EqGives renaming int->Qj
open PySem.NameKind renaming cell->qp,free->xm
open PySem.Obj renaming putName->dy,cls_mapFields->eB,mapFields->eW,cls_mapSeq->gg,isFreed_of_fields->gL,data_mapFields->i7,mapBytearray->jZ,isFreed_of_dict->sF,data_mapDictKeys->Hq,mapSeq->K8,isFreed_of_seq->K9,data_mapDict->Ou,data_mapSeq->Qg
open PySem.PassesOwn renaming never->FR
open PySem.PyData renaming keyHash->LS
open PySem.ScopeKind renaming function->B7
open PySem.Sem renaming wp_mono->ro,wp_bind'->ZI,wp->qfc
open PySem.SeqRoads2 renaming in_tuple->qfs,notIn_tuple->qft
open PySem.SeqRoads2.EqGives renaming str->Oz
open PySem.Stmt.Assign renaming elim->qaY
open PySem.Stmt.ClassDef renaming elim->ZH
open PySem.Stmt.Expr renaming elim->qfq
open PySem.Stmt.FunctionDef renaming elim->Qf
open PySem.Str renaming ofString->ab
open PySem.Value renaming ref->cF,type->dB,none->eZ,isInt->US,bytes->U4,int->qaQ
open PySem.W renaming Looks->dA,typeIs_bytes->dJ,emptyDict->gA,instObj->hV,looks_findIn->iP,findIn->jY,Frag->qo,plainGet_of->tQ,tabObj->tV,kla_obj->uB,behindTheImports->zW,boot_heap->zX,piece_app->zY,segRun_of->zZ,fnOf->z3,looks_clsIn->An,piecesOf->DQ,InitBack->DT,ReadsAllW->HQ,handedIn->Ol,kHook->Ov,nsIn->T6,boot_drawn->T8,check_slot->Uc,looks_keep->Ui,readsAllW_cons_inv->Uo,makesIn->UZ,boot_toks->ZK,specialIn->ZO
open PySem.W.FB renaming slot_bytes_getitem->j2
open PySem.W.Looks renaming ld->fV,of_pure->mN
open PySem.W.WData renaming layableAll->Ld
open PySem.W.WShape renaming hasItems->vD
open PySem.W.WTm renaming holds->qfo
open PySem.callAny renaming viaDunder->lT
open UInt8 renaming ofNat->bz,toNat_lt->fW,toNat_ofNat_of_lt'->z9,ofNat_toNat->HV
set_option Elab.async false
set_option tactic.hygienic false
set_option bootstrap.genMatcherCode false
set_option genInjectivity false
set_option genSizeOf false
set_option linter.all false
set_option maxRecDepth 100000
set_option maxHeartbeats 0
namespace Internal
open Lean in
def nd(k:Name)(a:String)(t:Syntax):Syntax:=.node .none (`Lean.Parser.Tactic++k) #[.atom .none a,t]
open Lean in
def hol:Syntax:=.node .none `Lean.Parser.Term.syntheticHole #[.atom .none "?",.node .none `Lean.Parser.Term.hole #[.atom .none "_"]]
open Lean in
def el(r:Syntax):Syntax:=
 let t:=r.getArg 1
 let x:=mkNullNode #[t.getArg 1]
 if t.isOfKind `«term-_» then nd `clear "clear" x
 else if t.isOfKind `«term!_» then nd `subst "subst" x
 else if t.getId== `V then mkNullNode #[nd `refine "refine" (.node .none `Lean.Parser.Term.app #[mkIdent `eX,mkNullNode #[hol]]),nd `intro "intro" (mkNullNode #[t])]
 else nd `refine "refine" (if(t.find? (·.isOfKind `Lean.Parser.Term.syntheticHole)).isSome then t else
  let p:=t.isOfKind `Lean.Parser.Term.app
  .node .none `Lean.Parser.Term.app #[if p then t.getArg 0 else t,mkNullNode ((if p then(t.getArg 1).getArgs else #[]).push hol)])
local macro_rules (kind:=Lean.Parser.Tactic.tacticErw___)
 |s=>return Lean.mkNullNode (((s.getArg 2).getArg 1).getSepArgs.map el)
local macro_rules (kind:=Lean.Parser.Tactic.tacticRwa__)
 |s=>let a:=((s.getArg 1).getArg 1).getSepArgs;let e:=a.back!.getArg 1;return Lean.mkNullNode ((a.pop.map el).push (if e.isOfKind `Lean.Parser.Term.hole then .node .none `tacticKernel_rfl #[.atom .none "kernel_rfl"] else nd `exact "exact" e))
noncomputable section
section
universe u
theorem nI{a b:Nat}(h:c7 a b=ah):a<=b:=aa h
theorem eJ(n:Nat):0<n+1:=aN n
theorem nn{p:Prop}(h:(p->False)->False):p:=qfp h
@[elab_as_elim] theorem af{a:α}{b:α}{P:α->Prop}(h:a=b)(k:P b):P a:=h▸k
@[elab_as_elim] theorem dq{a:α}{b:α}{P:α->Prop}(h:b=a)(k:P b):P a:=h▸k
section
variable{m n o p:Prop}
theorem gp(A:m)(B:n)(C:o):m/\n/\o:=⟨A,B,C⟩
theorem mT(A:m)(B:n)(C:o)(D:p):m/\n/\o/\p:=⟨A,B,C,D⟩
theorem Md{q:Prop}{r:Prop}(A:m)(B:n)(C:o)(D:p)(E:q)(F:r):m/\n/\o/\p/\q/\r:=⟨A,B,C,D,E,F⟩
end
section
variable{Ta:Sort _}{m n o p q:Ta->Prop}
theorem qI(a:Ta)(A:m a):∃a,m a:=⟨a,A⟩
theorem bV(a:Ta)(A:m a)(B:n a):∃a,m a/\n a:=⟨a,A,B⟩
theorem oK(a:Ta)(A:m a)(B:n a)(C:o a):∃a,m a/\n a/\o a:=⟨a,A,B,C⟩
theorem Ib(a:Ta)(A:m a)(B:n a)(C:o a)(D:p a):∃a,m a/\n a/\o a/\p a:=⟨a,A,B,C,D⟩
theorem qa1(a:Ta)(A:m a)(B:n a)(C:o a)(D:p a)(E:q a):∃a,m a/\n a/\o a/\p a/\q a:=⟨a,A,B,C,D,E⟩
theorem qa2{r:Ta->Prop}(a:Ta)(A:m a)(B:n a)(C:o a)(D:p a)(E:q a)(F:r a):∃a,m a/\n a/\o a/\p a/\q a/\r a:=⟨a,A,B,C,D,E,F⟩
end
section
variable{Ta Tb:Sort _}{m n o p q:Ta->Tb->Prop}
theorem Cr(a:Ta)(b:Tb)(A:m a b):∃a b,m a b:=⟨a,b,A⟩
theorem vE(a:Ta)(b:Tb)(A:m a b)(B:n a b):∃a b,m a b/\n a b:=⟨a,b,A,B⟩
theorem qJ(a:Ta)(b:Tb)(A:m a b)(B:n a b)(C:o a b):∃a b,m a b/\n a b/\o a b:=⟨a,b,A,B,C⟩
theorem F5(a:Ta)(b:Tb)(A:m a b)(B:n a b)(C:o a b)(D:p a b):∃a b,m a b/\n a b/\o a b/\p a b:=⟨a,b,A,B,C,D⟩
theorem Vf(a:Ta)(b:Tb)(A:m a b)(B:n a b)(C:o a b)(D:p a b)(E:q a b):∃a b,m a b/\n a b/\o a b/\p a b/\q a b:=⟨a,b,A,B,C,D,E⟩
theorem QA{r:Ta->Tb->Prop}{s:Ta->Tb->Prop}(a:Ta)(b:Tb)(A:m a b)(B:n a b)(C:o a b)(D:p a b)(E:q a b)(F:r a b)(G:s a b):∃a b,m a b/\n a b/\o a b/\p a b/\q a b/\r a b/\s a b:=⟨a,b,A,B,C,D,E,F,G⟩
end
section
variable{Ta Tb Tc:Sort _}{m n o p:Ta->Tb->Tc->Prop}
theorem Me(a:Ta)(b:Tb)(c:Tc)(A:m a b c)(B:n a b c):∃a b c,m a b c/\n a b c:=⟨a,b,c,A,B⟩
theorem Ic(a:Ta)(b:Tb)(c:Tc)(A:m a b c)(B:n a b c)(C:o a b c):∃a b c,m a b c/\n a b c/\o a b c:=⟨a,b,c,A,B,C⟩
theorem QB(a:Ta)(b:Tb)(c:Tc)(A:m a b c)(B:n a b c)(C:o a b c)(D:p a b c):∃a b c,m a b c/\n a b c/\o a b c/\p a b c:=⟨a,b,c,A,B,C,D⟩
theorem qa3{q:Ta->Tb->Tc->Prop}{r:Ta->Tb->Tc->Prop}(a:Ta)(b:Tb)(c:Tc)(A:m a b c)(B:n a b c)(C:o a b c)(D:p a b c)(E:q a b c)(F:r a b c):∃a b c,m a b c/\n a b c/\o a b c/\p a b c/\q a b c/\r a b c:=⟨a,b,c,A,B,C,D,E,F⟩
end
section
variable{Ta Tb Tc Td:Sort _}{m n o p:Ta->Tb->Tc->Td->Prop}
theorem QC(a:Ta)(b:Tb)(c:Tc)(d:Td)(A:m a b c d):∃a b c d,m a b c d:=⟨a,b,c,d,A⟩
theorem qa4(a:Ta)(b:Tb)(c:Tc)(d:Td)(A:m a b c d)(B:n a b c d)(C:o a b c d)(D:p a b c d):∃a b c d,m a b c d/\n a b c d/\o a b c d/\p a b c d:=⟨a,b,c,d,A,B,C,D⟩
theorem qa5{q:Ta->Tb->Tc->Td->Prop}{r:Ta->Tb->Tc->Td->Prop}(a:Ta)(b:Tb)(c:Tc)(d:Td)(A:m a b c d)(B:n a b c d)(C:o a b c d)(D:p a b c d)(E:q a b c d)(F:r a b c d):∃a b c d,m a b c d/\n a b c d/\o a b c d/\p a b c d/\q a b c d/\r a b c d:=⟨a,b,c,d,A,B,C,D,E,F⟩
end
theorem qa6{Ta:Sort _}{Tb:Sort _}{Tc:Sort _}{Td:Sort _}{Te:Sort _}{m:Ta->Tb->Tc->Td->Te->Prop}{n:Ta->Tb->Tc->Td->Te->Prop}{o:Ta->Tb->Tc->Td->Te->Prop}(a:Ta)(b:Tb)(c:Tc)(d:Td)(e:Te)(A:m a b c d e)(B:n a b c d e)(C:o a b c d e):∃a b c d e,m a b c d e/\n a b c d e/\o a b c d e:=⟨a,b,c,d,e,A,B,C⟩
theorem qa7{Ta:Sort _}{Tb:Sort _}{Tc:Sort _}{Td:Sort _}{Te:Sort _}{Tf:Sort _}{m:Ta->Tb->Tc->Td->Te->Tf->Prop}{n:Ta->Tb->Tc->Td->Te->Tf->Prop}{o:Ta->Tb->Tc->Td->Te->Tf->Prop}{p:Ta->Tb->Tc->Td->Te->Tf->Prop}{q:Ta->Tb->Tc->Td->Te->Tf->Prop}{r:Ta->Tb->Tc->Td->Te->Tf->Prop}{s:Ta->Tb->Tc->Td->Te->Tf->Prop}{t:Ta->Tb->Tc->Td->Te->Tf->Prop}(a:Ta)(b:Tb)(c:Tc)(d:Td)(e:Te)(f:Tf)(A:m a b c d e f)(B:n a b c d e f)(C:o a b c d e f)(D:p a b c d e f)(E:q a b c d e f)(F:r a b c d e f)(G:s a b c d e f)(H:t a b c d e f):∃a b c d e f,m a b c d e f/\n a b c d e f/\o a b c d e f/\p a b c d e f/\q a b c d e f/\r a b c d e f/\s a b c d e f/\t a b c d e f:=⟨a,b,c,d,e,f,A,B,C,D,E,F,G,H⟩
theorem qa8{Ta:Sort _}{Tb:Sort _}{Tc:Sort _}{Td:Sort _}{Te:Sort _}{Tf:Sort _}{Tg:Sort _}{Th:Sort _}{Ti:Sort _}{m:Ta->Tb->Tc->Td->Te->Tf->Tg->Th->Ti->Prop}(a:Ta)(b:Tb)(c:Tc)(d:Td)(e:Te)(f:Tf)(g:Tg)(h:Th)(i:Ti)(A:m a b c d e f g h i):∃a b c d e f g h i,m a b c d e f g h i:=⟨a,b,c,d,e,f,g,h,i,A⟩
end
section
namespace Ln
open Nat.Internal.Linear (Expr)
def ix:List Nat->Nat->Nat
 |[],_=>0
 |x::_,0=>x
 |_::l,n+1=>ix l n
noncomputable def ed(c:List Nat):Expr->Nat
 |.num k=>k
 |.var i=>ix c i
 |.add x y=>ed c x+ed c y
 |.mulL k x=>k*ed c x
 |.mulR x k=>ed c x*k
noncomputable abbrev Z:=K4
noncomputable def zd(c:List Nat):Z->Int
 |.num k=>k
 |.var i=>(ix c i:Int)
 |.add x y=>zd c x+zd c y
 |.sub x y=>zd c x-zd c y
 |.neg x=> -zd c x
 |.mulL k x=>k*zd c x
 |.mulR x k=>zd c x*k
set_option genCtorIdx false in
inductive Q |gh(t k:Nat)(x y:Expr)(q:Q) |g(t d:Nat)(x y:Expr) |zh(t k:Nat)(x y:Z)(q:Q) |z(t d:Nat)(x y:Z)
noncomputable def sel{α:Sort u}(t:Nat)(a b c d:α):α:=Hn t a λn=>Hn n b λn=>Hn n c λz=>d
def Q.den(c:List Nat):Q->Prop
 |gh t _ x y q=>sel t (ed c x<=ed c y) (ed c x<ed c y) (ed c x=ed c y) (ed c x=ed c y)->q.den c
 |zh t _ x y q=>sel t (zd c x<=zd c y) (zd c x<zd c y) (zd c x=zd c y) (zd c x=zd c y)->q.den c
 |g t _ x y=>sel t (ed c x<=ed c y) (ed c x<ed c y) (ed c x=ed c y) False
 |z t _ x y=>sel t (zd c x<=zd c y) (zd c x<zd c y) (zd c x=zd c y) False
noncomputable def qK:List Int->List Int->List Int
 |[],q=>q
 |a::p,[]=>a::p
 |a::p,b::q=>(a+b)::qK p q
noncomputable def me(k:Int)(p:List Int):List Int:=p.map (k* ·)
noncomputable def mono:Nat->List Int
 |0=>[1]
 |n+1=>0::mono n
noncomputable def lf:Expr->List Int
 |.num k=>[(k:Int)]
 |.var i=>0::mono i
 |.add x y=>qK (lf x)<|lf y
 |.mulL k x=>me k<|lf x
 |.mulR x k=>me k<|lf x
def Ai(p q:List Int):List Int:=qK p<|me (-1) q
noncomputable def lz:Z->List Int
 |.num k=>[k]
 |.var i=>0::mono i
 |.add x y=>qK (lz x)<|lz y
 |.sub x y=>Ai (lz x)<|lz y
 |.neg x=>me (-1)<|lz x
 |.mulL k x=>me k<|lz x
 |.mulR x k=>me k<|lz x
def Qr(t:Nat)(p q:List Int):List Int:=sel t (Ai q p) (qK [-1]<|Ai q p) (Ai q p)<|Ai p q
noncomputable def nnP(d:Nat):List Int->Bool
 |[]=>iu 0 d
 |a::p=>decide (-(d:Int)<a)&&p.all λa=>decide<|0<=a
def gk(t d:Nat)(p q gC:List Int)(e:Bool):Bool:=
 sel t (nnP d<|Ai (me d<|Qr 0 p q) gC) (nnP d<|Ai (me d<|Qr 1 p q) gC) (e&&iu 0 d&&(Ai (me d<|Qr 0 p q) gC).all λa=>decide<|a=0) (nnP d<|Ai (me d [-1]) gC)
def Q.ok:Q->List Int->Bool->Bool
 |gh t k x y q,gC,e=>q.ok (qK gC<|me k<|Qr t (lf x)<|lf y)<|e&&c7 2 t
 |zh t k x y q,gC,e=>q.ok (qK gC<|me k<|Qr t (lz x)<|lz y)<|e&&c7 2 t
 |g t d x y,gC,e=>gk t d (lf x) (lf y) gC e
 |z t d x y,gC,e=>gk t d (lz x) (lz y) gC e
noncomputable def ev(f:Nat->Nat):Nat->List Int->Int
 |_,[]=>0
 |i,a::p=>a*(f i:Int)+ev f (i+1) p
theorem qL:∀{p q:List Int} {i:Nat},ev f i (qK p q)=ev f i p+ev f i q
 |[],q,i=>(DK _).symm
 |a::p,[],i=>(uO _).symm
 |a::p,b::q,i=>by
  show(a+b)*(f i:Int)+ev f (i+1) (qK p q)=a*(f i:Int)+ev f (i+1) p+(b*(f i:Int)+ev f (i+1) q);rw[qL (p:=p),qaL];rw[BZ,Int.add_left_comm<|b*_, <-BZ]
theorem jK:∀{p:List Int} {i:Nat},ev f i (me k p)=k*ev f i p
 |[],i=>(ZE _).symm
 |a::p,i=>by
  show k*a*(f i:Int)+ev f (i+1) (me k p)=k*(a*(f i:Int)+ev f (i+1) p);rw[jK (p:=p),Int.mul_add,Int.mul_assoc]
theorem D6:∀{n i:Nat},ev f i (mono n)=f (i+n)
 |0,i=>(uO _).trans<|rk _
 |n+1,i=>by show 0*(f i:Int)+ev f (i+1) (mono n)=_;rw[D6 (n:=n),DL,DK,Nat.succ_add i n];rfl
theorem OR:∀{p:List Int} {i:Nat},(p.all λa=>decide<|0<=a)=ah->0<=ev f i p
 |[],i,_=>xi 0
 |a::p,i,h=>
  have h:=(bG _ _).mp h
  T3 (T4 (of_decide_eq_true h.1)<|aD _) (OR h.2)
theorem Vg:∀{p:List Int} {i:Nat},(p.all λa=>decide<|a=0)=ah->ev f i p=0
 |[],i,_=>rfl
 |a::p,i,h=>by
  have h:=(bG _ _).mp h;show a*(f i:Int)+ev f (i+1) p=0;rw[of_decide_eq_true h.1,Vg h.2,DL];rfl
theorem jP:ev f i (Ai p q)=ev f i p-ev f i q:=by
 unfold Ai;rw[qL,jK,qaM,rk];rfl
theorem Cs(h0:f 0=1):∀{p:List Int},nnP d p=ah-> -(d:Int)<ev f 0 p
 |[],h=>Int.neg_neg_of_pos<|aF.mpr<|aa h
 |a::p,h=>by
  have h:=(bG _ _).mp h;show-(d:Int)<a*(f 0:Int)+ev f 1 p;rw[h0];exact tO (of_decide_eq_true h.1)<|lG (uP (xj a).symm)<|Int.le_add_of_nonneg_right<|OR (f:=f) (i:=1) h.2
theorem rE:∀{x:Expr},ev (ix<|1::c) 0 (lf x)=(ed c x:Int)
 |.num k=>(uO _).trans<|xj _
 |.var i=>by show 0*_+ev (ix<|1::c) 1 (mono i)=(ix c i:Int);rw[D6,DL,DK,eO];rfl
 |.add x y=>by show ev _ 0 (qK _ _)=((ed c x+ed c y:Nat):Int);rw[qL,rE (x:=x),rE (x:=y)];rfl
 |.mulL k x=>by show ev _ 0 (me _ _)=((k*ed c x:Nat):Int);rw[jK,rE (x:=x)];rfl
 |.mulR x k=>by show ev _ 0 (me _ _)=((ed c x*k:Nat):Int);rw[jK,rE (x:=x),eQ];rfl
theorem oL:∀{x:Z},ev (ix<|1::c) 0 (lz x)=zd c x
 |.num k=>(uO _).trans<|xj _
 |.var i=>rE (x:=.var i)
 |.add x y=>by show ev _ 0 (qK _ _)=zd c x+zd c y;rw[qL,oL (x:=x),oL (x:=y)]
 |.sub x y=>by show ev _ 0 (Ai _ _)=zd c x-zd c y;rw[jP,oL (x:=x),oL (x:=y)]
 |.neg x=>by show ev _ 0 (me _ _)= -zd c x;rw[jK,oL (x:=x),qaM,rk]
 |.mulL k x=>by show ev _ 0 (me _ _)=k*zd c x;rw[jK,oL (x:=x)]
 |.mulR x k=>by show ev _ 0 (me _ _)=zd c x*k;rw[jK,oL (x:=x),Int.mul_comm]
theorem Ie(hp:ev f 0 p=a)(hq:ev f 0 q=b)(h0:f 0=1)(h:sel t (a<=b) (a<b) (a=b) (a=b)):0<=ev f 0 (Qr t p q)/\(c7 2 t=ah->ev f 0 (Qr t p q)=0):=by
 cases t with
 |zero=>refine⟨?_,λq=>nomatch q⟩;show 0<=ev _ 0 (Ai _ _);rw[jP,hp,hq];exact Ho h
 |succ t=>cases t with
  |zero=>
   refine⟨?_,λq=>nomatch q⟩;show 0<=ev _ 0 (qK _ _);rw[qL,jP,hp,hq];show 0<= -1*(f 0:Int)+0+(b-a);rw[h0];exact lG (Ho<|Int.add_one_le_of_lt<|Int.sub_pos_of_lt h)<|uP<|uQ (b-a)<|-1
  |succ t=>
   have h:a=b:=by cases t<;>exact h
   have e:ev f 0 (Qr (t+2) p q)=0:=by
    cases t with
    |zero=>show ev _ 0 (Ai _ _)=0;rw[jP,hp,hq,h];exact DM _
    |succ t=>show ev _ 0 (Ai _ _)=0;rw[jP,hp,hq,h];exact DM _
   exact⟨uP e.symm,λz=>e⟩
theorem qM{d:Nat}(hA:0<=A)(h: -(d:Int)<d*G-A):0<=G:=
 bO.mp λq=>by
  have h1:(d:Int)*G<=d*(-1):=Int.mul_le_mul_of_nonneg_left (Int.le_sub_one_of_lt q)<|aD d;have h2:=tO h<|lG (Int.sub_le_self _ hA) h1;rw[Int.mul_neg,xj] at h2;exact B0 _ h2
theorem Vh(hp:ev f 0 p=a)(hq:ev f 0 q=b)(hf:f 0=1)(ck:gk t d p q gC e=ah)(h0:0<=ev f 0 gC)(he:e=ah->ev f 0 gC=0):sel t (a<=b) (a<b) (a=b) False:=by
 cases t with
 |zero=>
  have h:=Cs hf ck;rw[jP,jK] at h;have h:=qM h0 h;have h:0<=ev f 0 (Ai q p):=h;rw[jP,hp,hq] at h;exact Hp h
 |succ t=>cases t with
  |zero=>
   have h:=Cs hf ck;rw[jP,jK] at h;have h:=qM h0 h;have h:0<=ev f 0 (qK [-1]<|Ai q p):=h;rw[qL,jP,hp,hq] at h;have h:0<= -1*(f 0:Int)+0+(b-a):=h;rw[hf] at h;exact Int.lt_of_sub_pos<|Int.lt_of_add_one_le<|Hp<|lG h<|uP<|uQ (-1)<|b-a
  |succ t=>cases t with
   |zero=>
    have ck:=(bG _ _).mp ck;have c1:=(bG _ _).mp ck.1;have h:=Vg (f:=f) (i:=0) ck.2;rw[jP,jK,he c1.1,ZF] at h;have h:(d:Int)*ev f 0 (Ai q p)=0:=h;rw[jP,hp,hq] at h;exact(Int.eq_of_sub_eq_zero<|(Int.mul_eq_zero.mp h).resolve_left λz=>ZG (aa c1.2)<|gm z).symm
   |succ t=>
    have h:=Cs hf ck;rw[jP,jK] at h;have h:0<= -1*(f 0:Int)+0:=qM h0 h;rw[hf] at h;exact absurd h (by decide)
theorem QD:∀(q:Q) (gC:List Int) (e:Bool),q.ok gC e=ah->0<=ev (ix<|1::c) 0 gC->(e=ah->ev (ix<|1::c) 0 gC=0)->q.den c:=by
 have hyp:∀{gC p:List Int} {k t:Nat} {e:Bool},0<=ev (ix<|1::c) 0 gC->(e=ah->ev (ix<|1::c) 0 gC=0)->0<=ev (ix<|1::c) 0 p/\(c7 2 t=ah->ev (ix<|1::c) 0 p=0)->
  0<=ev (ix<|1::c) 0 (qK gC<|me k p)/\((e&&c7 2 t)=ah->ev (ix<|1::c) 0 (qK gC<|me k p)=0):=λ{gC p k t e} h0 he hd=>by
  rw[qL,jK];refine⟨T3 h0<|T4 (aD k) hd.1,λz=>?_⟩;have z:=(bG _ _).mp z;rw[he z.1,hd.2 z.2,ZE];rfl
 intro q
 induction q with
 |gh t k x y q ih=>
  intro gC e ck h0 he h;have n:=hyp (k:=k) h0 he (Ie (t:=t) rE rE rfl<|by cases t with |zero=>exact bY.mpr h |succ t=>cases t with |zero=>exact aF.mpr h |succ t=>cases t<;>exact congrArg _ h);exact ih _ _ ck n.1 n.2
 |zh t k x y q ih=>
  intro gC e ck h0 he h;have n:=hyp (k:=k) h0 he<|Ie (t:=t) oL oL rfl h;exact ih _ _ ck n.1 n.2
 |g t d x y=>
  intro gC e ck h0 he;have h:=Vh (t:=t) rE rE rfl ck h0 he
  cases t with
  |zero=>exact bY.mp h
  |succ t=>cases t with
   |zero=>exact aF.mp h
   |succ t=>cases t with
    |zero=>exact gm h
    |succ t=>exact h
 |z t d x y=>exact λgC e ck h0 he=>Vh (t:=t) oL oL rfl ck h0 he
end Ln
open Ln
open Nat.Internal.Linear (Expr)
theorem lin(q:Q)(c:List Nat)(ck:q.ok [] ah=ah):q.den c:=QD q [] ah ck (xi 0) λz=>rfl
theorem oM(x y:Nat):x<=x-y+y:=Nat.le_add_of_sub_le<|aA _
end
open Lean in
def dI(s:String)(l:Array Syntax):Syntax:=.node .none `Lean.Parser.Term.app #[.node .none `Lean.Parser.Term.dotIdent #[.atom .none ".",mkIdent<|.mkSimple s],mkNullNode l]
open Lean in
def lx(t:Syntax):Syntax:=
 let x:=t.getArg 0
 let y:=t.getArg 2
 let lit (z:Syntax):=(z.getArg 1).getArg 0
 match t.getNumArgs with
 |0=>if t.isIdent then dI "var" #[Syntax.mkNatLit<|t.getId.toString.front.toNat-97] else t
 |1=>dI "num" #[t]
 |2=>dI "neg" #[t.getArg 1]
 |_=>
  let o:=(t.getArg 1).getAtomVal
  let i:=["<=","<","=","==",">=",">","&&"].idxOf o
  if i<7 then dI (if i<4 then "g" else "z") #[Syntax.mkNatLit<|i%4,Syntax.mkNatLit 1,if i/2==2 then y else x,if i/2==2 then x else y]
  else if o=="->" then dI (((x.getArg 0).getArg 1).getId.toString++"h") ((x.getArg 1).getArgs.push y)
  else if o=="^" then x.setArg 1 ((x.getArg 1).setArg 1<|lit y)
  else if o=="*" then dI "mulL" #[lit x,y]
  else if o=="%" then dI "mulR" #[x,lit y]
  else if o=="" then t.getArg 1
  else dI (if o=="+" then "add" else "sub") #[x,y]
open Lean in
def lq(p:Syntax):Syntax:=
 .node .none `Lean.Parser.Term.app #[mkIdent `lin,mkNullNode #[p.rewriteBottomUp lx,.node .none `«term[_]» #[.atom .none "[",mkNullNode<|mkSepArray (.replicate ((((p.reprint.getD "").toList.map Char.toNat).max?.getD 0)-96)<|.node .none `Lean.Parser.Term.hole #[.atom .none "_"])<|.atom .none ",",.atom .none "]"],mkIdent `rfl]]
local macro_rules (kind:=«term‹_›»)
 |s=>return lq (s.getArg 1)
section
variable{z:Prop}{m n o p q r s:Prop}
theorem aT(h:m/\n)(k:m->n->z):z:=k h.1 h.2
theorem lE(h:m/\n/\o)(k:m->n->o->z):z:=k h.1 h.2.1 h.2.2
theorem QE(h:m/\n/\o/\p)(k:m->n->o->p->z):z:=k h.1 h.2.1 h.2.2.1 h.2.2.2
theorem Mf(h:m/\n/\o/\p/\q)(k:m->n->o->p->q->z):z:=k h.1 h.2.1 h.2.2.1 h.2.2.2.1 h.2.2.2.2
theorem qa9(h:m/\n/\o/\p/\q/\r)(k:m->n->o->p->q->r->z):z:=k h.1 h.2.1 h.2.2.1 h.2.2.2.1 h.2.2.2.2.1 h.2.2.2.2.2
theorem qba(h:m/\n/\o/\p/\q/\r/\s)(k:m->n->o->p->q->r->s->z):z:=k h.1 h.2.1 h.2.2.1 h.2.2.2.1 h.2.2.2.2.1 h.2.2.2.2.2.1 h.2.2.2.2.2.2
theorem Vi{t:Prop}(h:m/\n/\o/\p/\q/\r/\s/\t)(k:m->n->o->p->q->r->s->t->z):z:=k h.1 h.2.1 h.2.2.1 h.2.2.2.1 h.2.2.2.2.1 h.2.2.2.2.2.1 h.2.2.2.2.2.2.1 h.2.2.2.2.2.2.2
end
section
variable{z:Prop}{Ta:Sort _}{m n o p q:Ta->Prop}
theorem c4(h:∃a,m a)(k:∀a,m a->z):z:=by rcases h with⟨a,A⟩;exact k _ A
theorem aK(h:∃a,m a/\n a)(k:∀a,m a->n a->z):z:=by rcases h with⟨a,A,B⟩;exact k _ A B
theorem dh(h:∃a,m a/\n a/\o a)(k:∀a,m a->n a->o a->z):z:=by rcases h with⟨a,A,B,C⟩;exact k _ A B C
theorem yW(h:∃a,m a/\n a/\o a/\p a)(k:∀a,m a->n a->o a->p a->z):z:=by rcases h with⟨a,A,B,C,D⟩;exact k _ A B C D
theorem Vj(h:∃a,m a/\n a/\o a/\p a/\q a)(k:∀a,m a->n a->o a->p a->q a->z):z:=by rcases h with⟨a,A,B,C,D,E⟩;exact k _ A B C D E
theorem qbb{r:Ta->Prop}(h:∃a,m a/\n a/\o a/\p a/\q a/\r a)(k:∀a,m a->n a->o a->p a->q a->r a->z):z:=by rcases h with⟨a,A,B,C,D,E,F⟩;exact k _ A B C D E F
end
section
variable{z:Prop}{Ta Tb:Sort _}{m n o p q:Ta->Tb->Prop}
theorem vF(h:∃a b,m a b)(k:∀a b,m a b->z):z:=by rcases h with⟨a,b,A⟩;exact k _ _ A
theorem n6(h:∃a b,m a b/\n a b)(k:∀a b,m a b->n a b->z):z:=by rcases h with⟨a,b,A,B⟩;exact k _ _ A B
theorem dF(h:∃a b,m a b/\n a b/\o a b)(k:∀a b,m a b->n a b->o a b->z):z:=by rcases h with⟨a,b,A,B,C⟩;exact k _ _ A B C
theorem Vk(h:∃a b,m a b/\n a b/\o a b/\p a b)(k:∀a b,m a b->n a b->o a b->p a b->z):z:=by rcases h with⟨a,b,A,B,C,D⟩;exact k _ _ A B C D
theorem Vl(h:∃a b,m a b/\n a b/\o a b/\p a b/\q a b)(k:∀a b,m a b->n a b->o a b->p a b->q a b->z):z:=by rcases h with⟨a,b,A,B,C,D,E⟩;exact k _ _ A B C D E
theorem Ct{r:Ta->Tb->Prop}{s:Ta->Tb->Prop}(h:∃a b,m a b/\n a b/\o a b/\p a b/\q a b/\r a b/\s a b)(k:∀a b,m a b->n a b->o a b->p a b->q a b->r a b->s a b->z):z:=by rcases h with⟨a,b,A,B,C,D,E,F,G⟩;exact k _ _ A B C D E F G
end
section
variable{z:Prop}{Ta Tb Tc:Sort _}{m n o p q:Ta->Tb->Tc->Prop}
theorem Ig(h:∃a b c,m a b c/\n a b c)(k:∀a b c,m a b c->n a b c->z):z:=by rcases h with⟨a,b,c,A,B⟩;exact k _ _ _ A B
theorem xn(h:∃a b c,m a b c/\n a b c/\o a b c)(k:∀a b c,m a b c->n a b c->o a b c->z):z:=by rcases h with⟨a,b,c,A,B,C⟩;exact k _ _ _ A B C
theorem mq(h:∃a b c,m a b c/\n a b c/\o a b c/\p a b c/\q a b c)(k:∀a b c,m a b c->n a b c->o a b c->p a b c->q a b c->z):z:=by rcases h with⟨a,b,c,A,B,C,D,E⟩;exact k _ _ _ A B C D E
theorem Mg{r:Ta->Tb->Tc->Prop}(h:∃a b c,m a b c/\n a b c/\o a b c/\p a b c/\q a b c/\r a b c)(k:∀a b c,m a b c->n a b c->o a b c->p a b c->q a b c->r a b c->z):z:=by rcases h with⟨a,b,c,A,B,C,D,E,F⟩;exact k _ _ _ A B C D E F
end
section
variable{z:Prop}{Ta Tb Tc Td:Sort _}{m n o p q:Ta->Tb->Tc->Td->Prop}
theorem yX(h:∃a b c d,m a b c d)(k:∀a b c d,m a b c d->z):z:=by rcases h with⟨a,b,c,d,A⟩;exact k _ _ _ _ A
theorem Ih(h:∃a b c d,m a b c d/\n a b c d/\o a b c d/\p a b c d)(k:∀a b c d,m a b c d->n a b c d->o a b c d->p a b c d->z):z:=by rcases h with⟨a,b,c,d,A,B,C,D⟩;exact k _ _ _ _ A B C D
theorem qbc(h:∃a b c d,m a b c d/\n a b c d/\o a b c d/\p a b c d/\q a b c d)(k:∀a b c d,m a b c d->n a b c d->o a b c d->p a b c d->q a b c d->z):z:=by rcases h with⟨a,b,c,d,A,B,C,D,E⟩;exact k _ _ _ _ A B C D E
theorem QF{r:Ta->Tb->Tc->Td->Prop}(h:∃a b c d,m a b c d/\n a b c d/\o a b c d/\p a b c d/\q a b c d/\r a b c d)(k:∀a b c d,m a b c d->n a b c d->o a b c d->p a b c d->q a b c d->r a b c d->z):z:=by rcases h with⟨a,b,c,d,A,B,C,D,E,F⟩;exact k _ _ _ _ A B C D E F
end
section
variable{z:Prop}{Ta Tb Tc Td Te:Sort _}{m n o:Ta->Tb->Tc->Td->Te->Prop}
theorem Ii(h:∃a b c d e,m a b c d e/\n a b c d e/\o a b c d e)(k:∀a b c d e,m a b c d e->n a b c d e->o a b c d e->z):z:=by rcases h with⟨a,b,c,d,e,A,B,C⟩;exact k _ _ _ _ _ A B C
theorem qbd{p:Ta->Tb->Tc->Td->Te->Prop}{q:Ta->Tb->Tc->Td->Te->Prop}{r:Ta->Tb->Tc->Td->Te->Prop}(h:∃a b c d e,m a b c d e/\n a b c d e/\o a b c d e/\p a b c d e/\q a b c d e/\r a b c d e)(k:∀a b c d e,m a b c d e->n a b c d e->o a b c d e->p a b c d e->q a b c d e->r a b c d e->z):z:=by rcases h with⟨a,b,c,d,e,A,B,C,D,E,F⟩;exact k _ _ _ _ _ A B C D E F
end
theorem qbe{z:Prop}{Ta:Sort _}{Tb:Sort _}{Tc:Sort _}{Td:Sort _}{Te:Sort _}{Tf:Sort _}{m:Ta->Tb->Tc->Td->Te->Tf->Prop}{n:Ta->Tb->Tc->Td->Te->Tf->Prop}{o:Ta->Tb->Tc->Td->Te->Tf->Prop}{p:Ta->Tb->Tc->Td->Te->Tf->Prop}{q:Ta->Tb->Tc->Td->Te->Tf->Prop}{r:Ta->Tb->Tc->Td->Te->Tf->Prop}{s:Ta->Tb->Tc->Td->Te->Tf->Prop}{t:Ta->Tb->Tc->Td->Te->Tf->Prop}(h:∃a b c d e f,m a b c d e f/\n a b c d e f/\o a b c d e f/\p a b c d e f/\q a b c d e f/\r a b c d e f/\s a b c d e f/\t a b c d e f)(k:∀a b c d e f,m a b c d e f->n a b c d e f->o a b c d e f->p a b c d e f->q a b c d e f->r a b c d e f->s a b c d e f->t a b c d e f->z):z:=by rcases h with⟨a,b,c,d,e,f,A,B,C,D,E,F,G,H⟩;exact k _ _ _ _ _ _ A B C D E F G H
theorem qbf{z:Prop}{Ta:Sort _}{Tb:Sort _}{Tc:Sort _}{Td:Sort _}{Te:Sort _}{Tf:Sort _}{Tg:Sort _}{m:Ta->Tb->Tc->Td->Te->Tf->Tg->Prop}{n:Ta->Tb->Tc->Td->Te->Tf->Tg->Prop}{o:Ta->Tb->Tc->Td->Te->Tf->Tg->Prop}{p:Ta->Tb->Tc->Td->Te->Tf->Tg->Prop}{q:Ta->Tb->Tc->Td->Te->Tf->Tg->Prop}(h:∃a b c d e f g,m a b c d e f g/\n a b c d e f g/\o a b c d e f g/\p a b c d e f g/\q a b c d e f g)(k:∀a b c d e f g,m a b c d e f g->n a b c d e f g->o a b c d e f g->p a b c d e f g->q a b c d e f g->z):z:=by rcases h with⟨a,b,c,d,e,f,g,A,B,C,D,E⟩;exact k _ _ _ _ _ _ _ A B C D E
theorem Ij{z:Prop}{Ta:Sort _}{Tb:Sort _}{Tc:Sort _}{Td:Sort _}{Te:Sort _}{Tf:Sort _}{Tg:Sort _}{Th:Sort _}{Ti:Sort _}{m:Ta->Tb->Tc->Td->Te->Tf->Tg->Th->Ti->Prop}(h:∃a b c d e f g h i,m a b c d e f g h i)(k:∀a b c d e f g h i,m a b c d e f g h i->z):z:=by rcases h with⟨a,b,c,d,e,f,g,h,i,A⟩;exact k _ _ _ _ _ _ _ _ _ A
@[elab_as_elim] theorem F6{P:Nat->Prop}(h:i<2)(h0:P 0)(h1:P 1):P i:=by
  cases i with
  |zero=>exact h0
  |succ i=>cases i with
   |zero=>exact h1
   |succ i=>exact absurd h<|qeR.mpr<|dG 2 i
@[elab_as_elim] theorem Vm{P:Nat->Prop}(h:i<4)(h0:P 0)(h1:P 1)(h2:P 2)(h3:P 3):P i:=by
  cases i with
  |zero=>exact h0
  |succ i=>cases i with
   |zero=>exact h1
   |succ i=>exact F6 (P:=λi=>P<|i+2) (eR<|eR h) h2 h3
@[elab_as_elim] theorem QG{P:Nat->Prop}(h:i<5)(h0:P 0)(h1:P 1)(h2:P 2)(h3:P 3)(h4:P 4):P i:=by
  cases i with
  |zero=>exact h0
  |succ i=>exact Vm (P:=λi=>P<|i+1) (eR h) h1 h2 h3 h4
section
open PySem
theorem lW{α:Type}{n:Nat}{f:n=k->Option α}{r:α}{P:Prop}(h:(if q:n=k then f q else aq)=ae r)(j:∀q,f q=ae r->P):P:=by
 by_cases q:n=k
 . rw[dif_pos q] at h;exact j q h
 . rw[dif_neg q] at h;contradiction
structure Lm where
 params:Arguments
 body:Expr
 scope:Scope
 pos:PySem.Pos
noncomputable def eS(e:Expr):Option (bI×Pos):=if h:e.ctorIdx=23 then Expr.Name.elim (motive_1:=λz=>Option<|bI×Pos) e h λx p=>ae (x,p) else aq
theorem gG(h:eS e=ae r):e= .Name r.1 r.2:=
 lW h λq=>Expr.Name.elim (motive_1:=λe=>∀q:e.ctorIdx=23,Expr.Name.elim (motive_1:=λz=>Option<|bI×Pos) e q (λx p=>ae (x,p))=ae r->e= .Name r.1 r.2) e q (λx p q h=>by injection h with h;subst h;rfl) q
noncomputable def mU(e:Expr):Option (Expr×bI×Pos):=if h:e.ctorIdx=20 then Expr.Attribute.elim (motive_1:=λz=>Option<|Expr×bI×Pos) e h λo x p=>ae (o,x,p) else aq
theorem mV(h:mU e=ae r):e= .Attribute r.1 r.2.1 r.2.2:=
 lW h λq=>Expr.Attribute.elim (motive_1:=λe=>∀q:e.ctorIdx=20,Expr.Attribute.elim (motive_1:=λz=>Option<|Expr×bI×Pos) e q (λo x p=>ae (o,x,p))=ae r->e= .Attribute r.1 r.2.1 r.2.2) e q (λo x p q h=>by injection h with h;subst h;rfl) q
noncomputable def qN(e:Expr):Option (List Expr×Nat×Pos):=if h:e.ctorIdx=25 then Expr.Tuple.elim (motive_1:=λz=>Option<|List Expr×Nat×Pos) e h λl k p=>ae (l,k,p) else aq
theorem mW(h:qN e=ae r):e= .Tuple r.1 r.2.1 r.2.2:=
 lW h λq=>Expr.Tuple.elim (motive_1:=λe=>∀q:e.ctorIdx=25,Expr.Tuple.elim (motive_1:=λz=>Option<|List Expr×Nat×Pos) e q (λl k p=>ae (l,k,p))=ae r->e= .Tuple r.1 r.2.1 r.2.2) e q (λl k p q h=>by injection h with h;subst h;rfl) q
noncomputable def D7(e:Expr):Option (Option Expr×Option Expr×Option Expr×Pos):=if h:e.ctorIdx=26 then Expr.Slice.elim (motive_1:=λz=>Option<|Option Expr×Option Expr×Option Expr×Pos) e h λa b c p=>ae (a,b,c,p) else aq
theorem Aw(h:D7 e=ae r):e= .Slice r.1 r.2.1 r.2.2.1 r.2.2.2:=
 lW h λq=>Expr.Slice.elim (motive_1:=λe=>∀q:e.ctorIdx=26,Expr.Slice.elim (motive_1:=λz=>Option<|Option Expr×Option Expr×Option Expr×Pos) e q (λa b c p=>ae (a,b,c,p))=ae r->e= .Slice r.1 r.2.1 r.2.2.1 r.2.2.2) e q (λa b c p q h=>by injection h with h;subst h;rfl) q
noncomputable def qO(e:Expr):Option (Expr×List Expr×List xP×Pos):=if h:e.ctorIdx=16 then Expr.Call.elim (motive_1:=λz=>Option<|Expr×List Expr×List xP×Pos) e h λf l k p=>ae (f,l,k,p) else aq
theorem vG(h:qO e=ae r):e= .Call r.1 r.2.1 r.2.2.1 r.2.2.2:=
 lW h λq=>Expr.Call.elim (motive_1:=λe=>∀q:e.ctorIdx=16,Expr.Call.elim (motive_1:=λz=>Option<|Expr×List Expr×List xP×Pos) e q (λf l k p=>ae (f,l,k,p))=ae r->e= .Call r.1 r.2.1 r.2.2.1 r.2.2.2) e q (λf l k p q h=>by injection h with h;subst h;rfl) q
noncomputable def OS(e:Expr):Option (Expr×Expr×Pos):=if h:e.ctorIdx=21 then Expr.Subscript.elim (motive_1:=λz=>Option<|Expr×Expr×Pos) e h λo i p=>ae (o,i,p) else aq
theorem F7(h:OS e=ae r):e= .Subscript r.1 r.2.1 r.2.2:=
 lW h λq=>Expr.Subscript.elim (motive_1:=λe=>∀q:e.ctorIdx=21,Expr.Subscript.elim (motive_1:=λz=>Option<|Expr×Expr×Pos) e q (λo i p=>ae (o,i,p))=ae r->e= .Subscript r.1 r.2.1 r.2.2) e q (λo i p q h=>by injection h with h;subst h;rfl) q
noncomputable def Ik(e:Expr):Option (Expr×List pG×kE×Pos):=if h:e.ctorIdx=8 then Expr.ListComp.elim (motive_1:=λz=>Option<|Expr×List pG×kE×Pos) e h λa b c d=>ae (a,b,c,d) else aq
theorem F8(h:Ik e=ae r):e= .ListComp r.1 r.2.1 r.2.2.1 r.2.2.2:=
 lW h λq=>Expr.ListComp.elim (motive_1:=λe=>∀q:e.ctorIdx=8,Expr.ListComp.elim (motive_1:=λz=>Option<|Expr×List pG×kE×Pos) e q (λa b c d=>ae (a,b,c,d))=ae r->e= .ListComp r.1 r.2.1 r.2.2.1 r.2.2.2) e q (λa b c d q h=>by injection h with h;subst h;rfl) q
noncomputable def D8(e:Expr):Option (List Expr×Pos):=if h:e.ctorIdx=24 then Expr.List.elim (motive_1:=λz=>Option<|List Expr×Pos) e h λa b=>ae (a,b) else aq
theorem F9(h:D8 e=ae r):e= .List r.1 r.2:=
 lW h λq=>Expr.List.elim (motive_1:=λe=>∀q:e.ctorIdx=24,Expr.List.elim (motive_1:=λz=>Option<|List Expr×Pos) e q (λa b=>ae (a,b))=ae r->e= .List r.1 r.2) e q (λa b q h=>by injection h with h;subst h;rfl) q
noncomputable def D9(e:Expr):Option (Const×Nat×Pos):=if h:e.ctorIdx=19 then Expr.Constant.elim (motive_1:=λz=>Option<|Const×Nat×Pos) e h λa b c=>ae (a,b,c) else aq
theorem Ga(h:D9 e=ae r):e= .Constant r.1 r.2.1 r.2.2:=
 lW h λq=>Expr.Constant.elim (motive_1:=λe=>∀q:e.ctorIdx=19,Expr.Constant.elim (motive_1:=λz=>Option<|Const×Nat×Pos) e q (λa b c=>ae (a,b,c))=ae r->e= .Constant r.1 r.2.1 r.2.2) e q (λa b c q h=>by injection h with h;subst h;rfl) q
noncomputable def Ea(e:Expr):Option Lm:=if h:e.ctorIdx=4 then Expr.Lambda.elim (motive_1:=λz=>Option Lm) e h λa b c d=>ae ⟨a,b,c,d⟩ else aq
theorem Gb(h:Ea e=ae r):e= .Lambda r.params r.body r.scope r.pos:=
 lW h λq=>Expr.Lambda.elim (motive_1:=λe=>∀q:e.ctorIdx=4,Expr.Lambda.elim (motive_1:=λz=>Option Lm) e q (λa b c d=>ae ⟨a,b,c,d⟩)=ae r->e= .Lambda r.params r.body r.scope r.pos) e q (λa b c d q h=>by injection h with h;subst h;rfl) q
noncomputable def jQ(e:Expr):Bool:=c7 e.ctorIdx 7||c7 11 e.ctorIdx
noncomputable def Cu(e:Expr):Bool:=c7 24 e.ctorIdx&&c7 e.ctorIdx 25
noncomputable def Vn(e:Expr):Bool:=b0 e.ctorIdx 22
noncomputable def vH(e:Expr):Bool:=b0 e.ctorIdx 7
noncomputable def Mh(e:Expr):Bool:=b0 e.ctorIdx 4||b0 e.ctorIdx 8
noncomputable def Cv(s:gK):Option (zS×List gK×kE):=if h:s.ctorIdx=0 then Qf (motive_2:=λz=>Option<|zS×List gK×kE) s h λz a b z z z c z z z=>ae (a,b,c) else aq
noncomputable def Vo(s:gK):List gK:=if h:s.ctorIdx=2 then ZH (motive_2:=λz=>List gK) s h λz z z b z z z z z z z=>b else[]
noncomputable def Vp(s:gK):Expr:=if h:s.ctorIdx=5 then qaY (motive_2:=λz=>Expr) s h λz e z=>e else default
noncomputable def qbg(s:gK):List gK:=if h:s.ctorIdx=9 then Stmt.For.elim (motive_2:=λz=>List gK) s h λz z b z z=>b else[]
noncomputable def sIf(s:gK):Expr:=if h:s.ctorIdx=12 then Stmt.If.elim (motive_2:=λz=>Expr) s h λe z z z=>e else default
noncomputable def qbh(s:gK):Expr:=if h:s.ctorIdx=24 then qfq (motive_2:=λz=>Expr) s h λe z=>e else default
noncomputable def OT(e:Expr):List Expr:=if h:e.ctorIdx=0 then Expr.BoolOp.elim (motive_1:=λz=>List Expr) e h λz l z=>l else[]
noncomputable def qbi(e:Expr):Expr:=if h:e.ctorIdx=15 then Expr.Compare.elim (motive_1:=λz=>Expr) e h λe z z z=>e else default
noncomputable def Vq(e:Expr):List Expr:=if h:e.ctorIdx=15 then Expr.Compare.elim (motive_1:=λz=>List Expr) e h λz z l z=>l else[]
noncomputable def xIf(e:Expr):Expr:=if h:e.ctorIdx=5 then Expr.IfExp.elim (motive_1:=λz=>Expr) e h λz e z z=>e else default
end
open PySem PySem.W PySem.Calls PyProof.Rows
open PySem.Sem (wp)
structure Cx where
 prog:Program
 w:World
 base:Heap
 gens:Array GenState
 drawn:Drawn
 os:OsState
 live:List Addr
@[reducible] noncomputable def Cx.push(C:Cx)(L:br):Cx:={C with live:=L::C.live}
noncomputable def norm(o:fy):fy:=if o.cls= .type "frame" then{o with slots:= #[]} else o
theorem bU(h:o.cls≠ .type "frame"):norm o=o:=if_neg h
theorem c8(o:fy):(norm o).data=o.data:=by unfold norm;split<;>rfl
theorem ft(o:fy):(norm o).cls=o.cls:=by unfold norm;split<;>rfl
theorem Mi(e:norm o'=o)(h:o.cls≠ .type "frame"):o'=o:=by
 rw[<-e,ft] at h;rw[bU h] at e;exact e
noncomputable abbrev Mj:=List<|br×fy
abbrev bp:=Mj->Prop
def SL:List bp->bp
 |[]=>λg=>g=[]
 |P::l=>λg=>∃g1 g2,g=g1++g2/\P g1/\SL l g2
theorem SL.append:∀{l':List bp} {g:Mj},SL (l++l') g↔ ∃g1 g2,g=g1++g2/\SL l g1/\SL l' g2:=by
 induction l with
 |nil=>intro l' g;exact⟨λh=>⟨[],g,rfl,rfl,h⟩,λz=>dF z λg1 g2 e h1 h2=>by rwa[!h1,!e,h2]⟩
 |cons P l ih=>
  intro l' g;constructor
  . rintro⟨g1,g2,rfl,h1,h2⟩
    rwa[dF (ih.mp h2) λg3 g4 aH h3 h4=>?_,!aH,⟨g1++g3,g4,(ax ..).symm,⟨g1,g3,rfl,h1,h3⟩,h4⟩]
  . rintro⟨g1,g2,rfl,⟨g3,g4,rfl,h1,h3⟩,h2⟩
    exact⟨g3,g4++g2,ax ..,h1,ih.mpr ⟨g4,g2,rfl,h3,h2⟩⟩
def ky(o:fy):Prop:=∀vs,o.data≠ .fields vs
structure There(C:Cx)(s:Shared)(g:Mj):Prop where
 nodup:(g.map (·.1)).Nodup
 at_:∀x∈g,∃o,s.heap.get? x.1=some o/\norm o=x.2
 new:∀x∈g,C.base.get? x.1=none
structure QH(C:Cx)(s:Shared):Prop where
 stays:C.base.StaysIn s.heap
 gens:s.gens=C.gens
 drawn:s.drawn=C.drawn
 os:s.os=C.os
 live:∀L∈C.live,C.base.get? L=none/\∃o,s.heap.get? L=some o/\ky o/\o.cls= .type "frame"
def Sat(C:Cx)(l:List bp)(s:aE):Prop:=QH C s/\∃g,SL l g/\There C s g
def pt(a:br)(o:fy):bp:=λg=>g=[(a,o)]
theorem There.perm(p:g.Perm g')(h:There C s g):There C s g':=
 ⟨(p.map _).nodup_iff.mp h.nodup,λx hx=>h.at_ x<|p.mem_iff.mpr hx,λx hx=>h.new x<|p.mem_iff.mpr hx⟩
theorem There.right(h:There C s (g++g')):There C s g':=
 ⟨by have:=h.nodup;rw[cN] at this;exact(List.nodup_append.mp this).2.1,λx hx=>h.at_ x<|a5 _ hx,λx hx=>h.new x<|a5 _ hx⟩
theorem SL.perm(p:l.Perm l'):∀{g},SL l g->∃g',g.Perm g'/\SL l' g':=by
 induction p with
 |nil=>intro g h;exact⟨g,.refl _,h⟩
 |cons P p ih=>
  rintro g ⟨g1,g2,rfl,h1,h2⟩;exact aK (ih h2) λg' p' h'=>(⟨g1++g',p'.append_left g1,g1,g',rfl,h1,h'⟩)
 |swap P Q l=>
  rintro g ⟨g1,g2,rfl,h1,g3,g4,rfl,h3,h4⟩;refine⟨g3++(g1++g4),?_,g3,_,rfl,h3,g1,g4,rfl,h1,h4⟩;rw[<-ax, <-ax];exact cZ.append_right g4
 |trans p q ih1 ih2=>
  intro g h;exact aK (ih1 h) λg1 p1 h1=>(aK (ih2 h1) λg2 p2 h2=>(⟨g2,p1.trans p2,h2⟩))
theorem Sat.perm(p:l.Perm l')(h:Sat C l s):Sat C l' s:=by
 rwa[aT h λf aH=>?_,-h,aK aH λg hg t=>?_,-aH,aK (SL.perm p hg) λg' p' h'=>(⟨f,g',h',t.perm p'⟩)]
theorem Sat.drop(h:Sat C (P::l) s):Sat C l s:=by
 rwa[aT h λf aH=>?_,-h,aK aH λg cX t=>?_,-aH,dF cX λg1 g2 gW h1 h2=>?_,-cX,!gW,⟨f,g2,h2,t.right⟩]
theorem Sat.imp(h:Sat C (P::l) s)(k:∀g,P g->P' g):Sat C (P'::l) s:=by
 rwa[nn λzn=>?_,aT h λf aH=>?_,-h,aK aH λg cX t=>?_,-aH,dF cX λg1 g2 gW h1 h2=>?_,zn,-zn,-cX,!gW,⟨f,_,⟨g1,g2,rfl,k g1 h1,h2⟩,t⟩]
theorem Sat.unpack:Sat C (SL l::R) s↔Sat C (l++R) s:=by
 constructor
 . rintro⟨f,g,⟨g1,g2,rfl,h1,h2⟩,t⟩
   exact⟨f,_,SL.append.mpr<|qJ g1 g2 rfl h1 h2,t⟩
 . rintro⟨f,g,h,t⟩
   rwa[dF (SL.append.mp h) λg1 g2 aH h1 h2=>?_,!aH,⟨f,_,⟨g1,g2,rfl,h1,h2⟩,t⟩]
theorem Sat.ex{α:Type}{P:α->bp}:Sat C ((λg=>∃x,P x g)::R) s↔ ∃x,Sat C (P x::R) s:=by
 constructor
 . rintro⟨f,g,⟨g1,g2,rfl,⟨x,h1⟩,h2⟩,t⟩
   exact⟨x,f,_,⟨g1,g2,rfl,h1,h2⟩,t⟩
 . rintro⟨x,f,g,⟨g1,g2,rfl,h1,h2⟩,t⟩
   exact⟨f,_,⟨g1,g2,rfl,⟨x,h1⟩,h2⟩,t⟩
theorem Sat.Ax{α:Type}{P:α->bp}{X:Prop}(h:Sat C ((λg=>∃x,P x g)::R) s)(q:∀x,Sat C (P x::R) s->X):X:=let⟨x,h⟩:=Sat.ex.mp h;q x h
theorem Sat.pure:Sat C ((λg=>φ/\P g)::R) s↔φ/\Sat C (P::R) s:=by
 constructor
 . rintro⟨f,g,⟨g1,g2,rfl,⟨x,h1⟩,h2⟩,t⟩
   exact⟨x,f,_,⟨g1,g2,rfl,h1,h2⟩,t⟩
 . rintro⟨x,f,g,⟨g1,g2,rfl,h1,h2⟩,t⟩
   exact⟨f,_,⟨g1,g2,rfl,⟨x,h1⟩,h2⟩,t⟩
theorem Sat.sW{X:Prop}(h:Sat C ((λg=>φ/\P g)::R) s)(q:φ->Sat C (P::R) s->X):X:=q (Sat.pure.mp h).1 (Sat.pure.mp h).2
theorem iC(h:Sat C (P0::P1::R) s):Sat C (P1::P0::R) s:=h.perm<|.swap ..
theorem Sat.stays(h:Sat C l s):C.base.StaysIn s.heap:=h.1.stays
theorem Sat.at(h:Sat C (pt a o::R) s):∃o',s.heap.get? a=ae o'/\norm o'=o:=by
 rwa[nn λzn=>?_,aT h λf aH=>?_,-h,aK aH λg cX t=>?_,-aH,dF cX λg1 g2 gW h1 h2=>?_,zn,-zn,-cX,!gW,!h1,t.at_ (a,o)<|bB _<|.head _]
theorem Sat.get(h:Sat C (pt a o::R) s)(hc:o.cls≠ .type "frame"):s.heap.get? a=ae o:=by
 exact aK h.at λo' e n=>(af e<|af (Mi n hc) rfl)
theorem Sat.rF(h:Sat C (pt a o::R) s):C.base.get? a=aq:=by
 rwa[nn λzn=>?_,aT h λf aH=>?_,-h,aK aH λg cX t=>?_,-aH,dF cX λg1 g2 gW h1 h2=>?_,zn,-zn,-cX,!gW,!h1,t.new (a,o)<|bB _<|.head _]
theorem Sat.ext(h:Sat C l s)(k:∀b o,s.heap.get? b=ae o->h'.get? b=ae o):Sat C l {s with heap:=h',toks:=t}:=by
 erw [nn λzn=>?_,aT h λf aH=>?_,-h,aK aH λg hg th=>?_,zn,-zn,-aH,⟨⟨λb o e=>k b o<|f.stays b o e,f.gens,f.drawn,f.os,λL hL=>?_⟩,g,hg,th.nodup,λx hx=>?_,th.new⟩]
 . rwa[nn λzn=>?_,aT (f.live L hL) λa aH=>?_,aK aH λo e n=>?_,zn,-zn,-aH,⟨a,o,k _ _ e,n⟩]
 . rwa[aK (th.at_ x hx) λo e n=>?_,(bV o (k _ _ e) n)]
theorem Sat.toks(h:Sat C l s):Sat C l {s with toks:=t}:=h.ext (h':=s.heap) λz z e=>e
theorem Sat.alloc(h:Sat C l s)(hf:o.isFreed=ao):Sat C (pt s.heap.objs.size (norm o)::l) {s with heap:=s.heap.push o,toks:=t}:=by
 have h':=h.ext (h':=s.heap.push o) (t:=t) λb o' e=>cH o e;erw [nn λzn=>?_,aT h λf aH=>?_,-h,aK aH λg hg th=>?_,-aH];obtain⟨f',-⟩:=h';erw [zn,-zn,⟨f',(s.heap.objs.size,norm o)::g,⟨[_],g,rfl,rfl,hg⟩,?_,λx hx=>?_,λx hx=>?_⟩]
 . refine af bW (af (propext cO) ?_)
   erw [⟨λq=>?_,th.nodup⟩,aK (dW.mp q) λx hx e=>?_];obtain⟨o',e',-⟩:=th.at_ x hx;have:=lr e';rw[e] at this;exact absurd this<|nB _
 . rcases aV.mp hx with rfl |hx
   . exact(bV o (rC _ hf) rfl)
   . refine aK (th.at_ x hx) λo' e n=>?_;exact(bV o' (cH o e) n)
 . rcases aV.mp hx with rfl |hx
   . exact f.stays.fresh
   . exact th.new x hx
theorem Sat.set(h:Sat C (pt a o::R) s)(k:lu a s.heap h')(e:h'.get? a=ae o')(hk:(ky o'/\o'.cls=o.cls)\/∃vs,o.data= .fields vs):
 Sat C (pt a (norm o')::R) {s with heap:=h',toks:=t}:=by
 have hb:=h.rF;erw [nn λzn=>?_,aK h.at λo₀ e₀ n₀=>?_,aT h λf aH=>?_,-h,aK aH λg cX th=>?_,-aH,dF cX λg1 g2 gW h1 h2=>?_,zn,-zn,-cX,!gW,!h1];have nd:=th.nodup;rw[cN,bW,ly,cj,cO] at nd;refine⟨⟨λb ob eb=>?_,f.gens,f.drawn,f.os,λL hL=>?_⟩,(a,norm o')::g2,⟨[_],g2,rfl,rfl,h2⟩,?_,λx hx=>?_,λx hx=>?_⟩
 . rwa[af (k.2 b λq=>by rw[q,hb] at eb;contradiction),f.stays b ob eb]
 . refine nn λzn=>?_;refine aT (f.live L hL) λlb aH=>?_;refine aK aH λol el nl=>?_;refine zn ?_;clear zn;clear aH
   refine⟨lb,?_⟩;by_cases q:L=a
   . subst q
     rw[e₀] at el;injection el with el;subst el
     have mf:=hk.resolve_right λ⟨vs,hv⟩=>by
      rw[<-n₀,c8] at hv;exact nl.1 vs hv
     exact(oK o' e mf.1<|by rwa[af mf.2<|dq n₀<|af (ft _) ?_,nl.2])
   . exact(bV ol ((k.2 L q).trans el) nl)
 . rwa[af bW<|af (propext cO) ?_,nd]
 . rcases aV.mp hx with rfl |hx
   . exact(bV o' e rfl)
   . refine aK (th.at_ x<|a5 _ hx) λox ex nx=>?_
     rwa[(bV ox ((k.2 _ λq=>nd.1 ?_).trans ex) nx),dW.mpr<|bV x hx q]
 . rcases aV.mp hx with rfl |hx
   . exact hb
   . exact th.new x<|a5 _ hx
theorem Sat.lose(h:Sat C (pt a o::R) s)(hk:∃vs,o.data= .fields vs)(k:FJ a s.heap h'):Sat C R {s with heap:=h',toks:=t}:=by
 have hb:=h.rF;erw [nn λzn=>?_,aK h.at λo₀ e₀ n₀=>?_,aT h λf aH=>?_,-h,aK aH λg cX th=>?_,-aH,dF cX λg1 g2 gW h1 h2=>?_,zn,-zn,-cX,!gW,!h1];have nd:=th.nodup;rw[cN,bW,ly,cj,cO] at nd;refine⟨⟨λb ob eb=>k b ob (λq=>by rw[q,hb] at eb;contradiction)<|f.stays b ob eb,f.gens,f.drawn,f.os,λL hL=>?_⟩,g2,h2,nd.2,λx hx=>?_,λx hx=>th.new x<|a5 _ hx⟩
 . refine nn λzn=>?_;refine aT (f.live L hL) λlb aH=>?_;refine aK aH λol el nl=>?_;refine zn ?_;clear zn;clear aH
   erw [⟨lb,ol,k _ _ (λq=>?_) el,nl⟩,c4 hk λvs hv=>?_,-hk];rw[q,e₀] at el;injection el with el;subst el
   rw[<-n₀,c8] at hv;exact nl.1 vs hv
 . refine aK (th.at_ x<|a5 _ hx) λox ex nx=>?_
   rwa[(bV ox (k _ _ (λq=>nd.1 ?_) ex) nx),dW.mpr<|bV x hx q]
theorem Sat.push(h:Sat C l s)(hb:C.base.get? L=aq)(e:∃o,s.heap.get? L=ae o/\ky o/\o.cls= .type "frame"):Sat (C.push L) l s:=by
 erw [aT h λf aH=>?_,-h,aK aH λg hg th=>?_,-aH,⟨⟨f.stays,f.gens,f.drawn,f.os,λb hb'=>?_⟩,g,hg,th.nodup,th.at_,th.new⟩];rcases aV.mp hb' with rfl |q
 . exact⟨hb,e⟩
 . exact f.live b q
theorem Sat.pop(h:Sat (C.push L) l s):Sat C l s:=by
 rwa[aT h λf aH=>?_,-h,aK aH λg hg th=>?_,-aH,⟨⟨f.stays,f.gens,f.drawn,f.os,λb hb'=>f.live b<|.tail _ hb'⟩,g,hg,th.nodup,th.at_,th.new⟩]
noncomputable def look:List bI->List (Option aG)->bI->Option aG
 |n::ns,v::vs,x=>if x=n then v else look ns vs x
 |_,_,_=>aq
theorem Eb:∀{vs:List (Option aG)} {k:Nat} {x:bI} {v:Option aG},ns.Nodup->ns[k]? =ae x->vs[k]? =ae v->look ns vs x=v:=by
 induction ns with
 |nil=>intro vs k x v _ h1;contradiction
 |cons n ns ih=>
  intro vs k x v nd h1 h2
  cases vs with
  |nil=>contradiction
  |cons w vs=>cases k with
   |zero=>
    have e1:n=x:=eV h1;have e2:w=v:=eV h2;rwa[!e1,!e2,if_pos rfl]
   |succ k=>
    rw[cO] at nd;have h1:ns[k]? =ae x:=h1;have ne:x≠n:=λq=>nd.1<|q▸dv h1;exact(if_neg ne).trans<|ih (vs:=vs) nd.2 h1 h2
theorem Ay:∀{vs:List (Option aG)} {k:Nat} {x:bI} {v:Option aG},ns.Nodup->ns[k]? =ae x->k<vs.length->∀y,look ns (vs.set k v) y=if y=x then v else look ns vs y:=by
 induction ns with
 |nil=>intro vs k x v _ h1;contradiction
 |cons n ns ih=>
  intro vs k x v nd h1 hk y
  cases vs with
  |nil=>exact absurd hk<|iS _
  |cons w vs=>cases k with
   |zero=>
    have e1:n=x:=eV h1;subst e1;show(if y=n then v else look ns vs y)=if y=n then v else(if y=n then w else look ns vs y);by_cases q:y=n
    . rw[if_pos q,if_pos q]
    . rw[if_neg q,if_neg q,if_neg q]
   |succ k=>
    rw[cO] at nd;have h1:ns[k]? =ae x:=h1;have ne:x≠n:=λq=>nd.1<|q▸dv h1;show(if y=n then w else look ns (vs.set k v) y)=if y=x then v else(if y=n then w else look ns vs y);rw[ih nd.2 h1 (eR hk) y];by_cases q:y=n
    . rw[if_pos q,if_neg λz=>ne<|z.symm.trans q,if_pos q]
    . rw[if_neg q,if_neg q]
def ml(L:br)(ns:List bI)(vs:List (Option aG)):bp:=λg=>
 ∃o es ep,g=[(L,o)]/\o.cls= .type "frame"/\o.data= .dict es ep/\jj es/\∀x,jV es x=look ns vs x
def lO(a Cl:br)(ns:List bI)(vs:List (Option aG)):bp:=λg=>
 ∃dx od es ep,g=[(a,hV Cl dx),(dx,od)]/\od.cls= .type "dict"/\od.data= .dict es ep/\jj es/\es.size=vs.countP gx/\∀x,jV es x=look ns vs x
theorem Sat.frm(h:Sat C (ml L ns vs::R) s):∃es ep o,o.cls= .type "frame"/\o.data= .dict es ep/\jj es/\(∀x,jV es x=look ns vs x)/\Sat C (pt L o::R) s:=by
 rwa[nn λzn=>?_,aT h λf aH=>?_,-h,aK aH λg cX t=>?_,-aH,dF cX λg1 g2 gW jl hg=>?_,-cX,!gW,mq jl λo es ep oN h1 h2 h3 h4=>?_,zn,-zn,-jl,!oN,⟨es,ep,o,h1,h2,h3,h4,f,_,⟨_,_,rfl,rfl,hg⟩,t⟩]
theorem Sat.fr(h:Sat C (ml L ns vs::R) s):s.heap.Ns L (look ns vs):=by
 exact mq h.frm λes ep o h1 h2 h3 h4 H=>(aK H.at λo' e n=>(⟨o',es,ep,e,by exact dq h2<|dq n<|af (c8 _) rfl,h3,h4⟩))
theorem Sat.Il(h:Sat C (ml L ns vs::R) s):C.base.get? L=aq:=by
 exact mq h.frm λes ep o h1 h2 h3 h4 H=>(H.rF)
theorem gO(hd:o.data= .dict es ep)(hk:jj es)(name:bI)(hash:Int)(tk:Tok)(v:aG):
 ∃Co ep',(dy name hash (.str name tk) v o).data= .dict Co ep'/\(dy name hash (.str name tk) v o).cls=o.cls/\(dy name hash (.str name tk) v o).dict=o.dict/\(dy name hash (.str name tk) v o).slots=o.slots/\
  jj Co/\(∀x,jV Co x=if x=name then ae v else jV es x)/\Co.size=(if(jV es name).isSome then es.size else es.size+1):=by
 obtain⟨c,d,dt,sl⟩:=o;subst hd;simp only[Obj.putName_eq,Obj.putNameByArray];have key:=T5 (λn v=>Value.isStr v n) es name
 cases hi:es.findIdx? (·.key.isStr name) with
 |some i=>
  refine(QA _ _ rfl rfl rfl rfl (hk.modify _ _) (λx=>qfd (λn v=>v.isStr n) Value.isStr_inj es name x v i hi) ?_)
  have:(jV es name).isSome=ah:=by
   unfold jV;refine af key<|af hi ?_;obtain⟨ju,-⟩:=sD.mp hi;simp[l7 ju]
  exact af (if_pos this)<|af HN rfl
 |none=>
  refine(QA _ _ rfl rfl rfl rfl (hk.push _ _ _ _) (λx=>findBy_push (λn v=>v.isStr n) es name x _ _ v (λy=>by
   refine(?_:(name==y)=decide (y=name));by_cases h:y=name
   . subst h;simp
   . have:¬name=y:=λe=>h e.symm
     simp[h,this]) hi) ?_)
  have:¬(jV es name).isSome=ah:=by
   unfold jV;refine af key<|af hi ?_;simp
  exact af (if_neg this)<|af (w7 _) rfl
theorem gP(ho:s.heap.get? a=ae o)(hd:o.data= .dict es ep)(hk:jj es)(h:∀hash,Q () {s with heap:=s.heap.update a<|dy name hash (.str name s.toks) v,toks:=s.toks+1}):aC (bx prog w) A (nsSet a name v) Q E s:=by
 intro Γ p hΓ
 have qe2:es.any (·.refKey)=ao:=by
  erw [af (propext Array.any_eq_false'),λe he=>?_,vF (hk e he) λn t h=>?_];simp[DN,h]
 simp only[nsSet,strHash,ZI,Sem.wp_cmd_ask,Sem.wp_pure',Sem.wp_cmd_mkText];erw [af (Sem.wp_loadPart_of (bx prog w) Γ _ p {s with toks:=s.toks+1} (o:=o) _ ho _)];simp only[hd,aRefKeyMayBeTheName_eq,aRefKeyMayBeTheNameByArray,qe2,yO,bE,if_false,Sem.wp_cmd_updatePart];exact⟨by erw [af ho];rfl,h _⟩
section
variable{Cl:br}
theorem gq{o:fy}(h:o.data= .dict es ep):o.isFreed=ao:=sF h
theorem Sat.OU{tk:Nat}{hash:Int}(h:Sat C (ml L ns vs::R) s)(nd:ns.Nodup)(hx:ns[k]? =ae x)(hl:k<vs.length):
 Sat C (ml L ns (vs.set k<|ae v)::R) {s with heap:=s.heap.update L<|dy x hash (.str x tk) v,toks:=t}:=by
 erw [nn λzn=>?_,mq h.frm λes ep o h1 h2 h3 h4 H=>?_,aK H.at λo' e n=>?_,zn,-zn];have d':o'.data= .dict es ep:=dq h2<|dq n<|af (c8 _) rfl;have c':o'.cls= .type "frame":=dq h1<|dq n<|af (ft _) rfl;refine Ct (gO d' h3 x hash tk v) λCo ep' p1 p2 p3 p4 p5 p6 p7=>?_;have H':=H.set (t:=t) (bu s.heap L<|dy x hash (.str x tk) v) (bj _ e<|gq p1) (.inl ⟨λvs q=>by(rw[p1] at q;contradiction),by exact af p2<|af c'<|af h1 rfl⟩);erw [H'.imp λg hg=>?_,!hg];exact⟨_,Co,ep',rfl,by rwa[af (ft _)<|af p2 ?_,c'],by rwa[af (c8 _),p1],p5,λy=>by exact af (p6 _)<|af (h4 _)<|af (Ay nd hx hl _) rfl⟩
theorem Sat.QI(h:Sat C (ml L ns vs::R) s):∃o,s.heap.get? L=ae o/\ky o/\o.cls= .type "frame":=by
 rwa[mq h.frm λes ep o h1 h2 h3 h4 H=>(aK H.at λo' e n=>?_),(oK o' e (λvs q=>by(rw[<-c8,n,h2] at q;contradiction))<|dq (ft _)<|af n<|af h1 rfl)]
theorem Sat.inst(h:Sat C (lO a Cl ns vs::R) s):∃dx od es ep,od.cls= .type "dict"/\od.data= .dict es ep/\jj es/\es.size=vs.countP gx/\(∀x,jV es x=look ns vs x)/\Sat C (pt a (hV Cl dx)::pt dx od::R) s:=by
 rwa[nn λzn=>?_,aT h λf aH=>?_,-h,aK aH λg cX t=>?_,-aH,dF cX λg1 g2 gW jl hg=>?_,-cX,!gW,QF jl λdx od es ep oN h1 h2 h3 h4 h5=>?_,zn,-zn,-jl,!oN,⟨dx,od,es,ep,h1,h2,h3,h4,h5,f,_,⟨[_],_,rfl,rfl,[_],_,rfl,rfl,hg⟩,t⟩]
theorem Sat.Ec(h:Sat C (pt a (hV Cl dx)::pt dx od::R) s)(h1:od.cls= .type "dict")(h2:od.data= .dict es ep)(h3:jj es)(h4:es.size=vs.countP gx)(h5:∀x,jV es x=look ns vs x):
 Sat C (lO a Cl ns vs::R) s:=by
 rwa[nn λzn=>?_,aT h λf aH=>?_,-h,aK aH λg cX t=>?_,-aH,dF cX λg1 g2 gW e1 jl=>?_,-cX,!gW,dF jl λg3 g4 oN e3 hg=>?_,zn,-zn,-jl,!oN,!e1,!e3,⟨f,_,⟨[_,_],g4,rfl,⟨dx,od,es,ep,rfl,h1,h2,h3,h4,h5⟩,hg⟩,t⟩]
end
structure Gl(C:Cx)(K:Frag):Prop where
 inn:K.In C.base
 top:∃p loose mg mb,TopRead p loose mg mb C.base
theorem Gl.push{K}(G:Gl C K)(L:br):Gl (C.push L) K:=⟨G.inn,G.top⟩
theorem Gl.X{K}(G:Gl C K)(h:Sat C l s):K.In s.heap:=G.inn.keeps h.stays
structure Rm(C:Cx)(A:Around)(n:Nat):Prop where
 handled:A.handled=none
 depth:A.depth+2*n<recursionLimit
 units:A.units+6*n<cLine
 frames:∃l,A.frames=some l/\∀env∈l,env.scope.kind≠ .module/\∃L∈C.live,env.frame=some L
def UE(C:Cx)(A:c5)(l:List bp)(env:DO)(e:Expr)(P:aG->Prop):Prop:=
 ∀(Q:aG->aE->Prop) E s,Sat C l s->(∀v s',P v->Sat C l s'->Q v s')->aC (bx C.prog C.w) A (eval e env) Q E s
noncomputable def isI(i:Int)(v:aG):Prop:=∃t,v= .int i t
abbrev EvI(C:Cx)(A:c5)(l:List bp)(env:DO)(e:Expr)(i:Int):Prop:=UE C A l env e<|isI i
abbrev EvV(C:Cx)(A:c5)(l:List bp)(env:DO)(e:Expr)(v:aG):Prop:=UE C A l env e (· =v)
structure mr(scope:Scope)(ns gs:List Str):Prop where
 kind:scope.kind= .function
 nodup:ns.Nodup
 locals:∀x∈ns,scope.names.lookup x=some .local
 globals:∀x∈gs,scope.names.lookup x=some .globalImplicit
 uX:∀x∈ns++gs,(x==("__debug__":Str))=false
 only:∀x,scope.names.lookup x=some .local->x∈ns
inductive At:List Str->List (Option Value)->Str->Option Value->Prop
 |here {x ns v vs}:At (x::ns) (v::vs) x v
 |there {x y ns v w vs}:At ns vs x v->At (y::ns) (w::vs) x v
theorem At.idx(h:At ns vs x v):∃k:Nat,ns[k]? =ae x/\vs[k]? =ae v:=by
 induction h with
 |here=>exact bV 0 rfl rfl
 |there _ ih=>exact aK ih λk a b=>bV (k+1) a b
theorem At.mem(h:At ns vs x v):x∈ns:=aK h.idx λz a z=>dv a
theorem At.look{ns}{vs}{x}{v}(h:At ns vs x v)(nd:ns.Nodup):look ns vs x=v:=aK h.idx λz a b=>Eb nd a b
inductive Put:List Str->List (Option Value)->Str->Option Value->Value->List (Option Value)->Prop
 |here {x ns o v vs}:Put (x::ns) (o::vs) x o v (some v::vs)
 |there {x y ns o v w vs vs'}:Put ns vs x o v vs'->Put (y::ns) (w::vs) x o v (w::vs')
theorem Put.idx(h:Put ns vs x o v vs'):∃k:Nat,ns[k]? =ae x/\vs[k]? =ae o/\k<vs.length/\vs'=vs.set k (ae v):=by
 induction h with
 |here=>exact Ib 0 rfl rfl (aN _) rfl
 |there _ ih=>exact yW ih λk a b c d=>Ib (k+1) a b (jX c)<|congrArg _ d
theorem Put.mem(h:Put ns vs x o v vs'):x∈ns:=yW h.idx λz a z z z=>dv a
inductive vI(P P':bp):List bp->List bp->Prop
 |here {l}:vI P P' (P::l) (P'::l)
 |there {X l l'}:vI P P' l l'->vI P P' (X::l) (X::l')
theorem vI.perm(h:vI P P' l l'):∃R,l.Perm (P::R)/\l'.Perm (P'::R):=by
 induction h with
 | @here l=>exact(bV l (.refl _)<|.refl _)
 | @there X l l' _ ih=>
   rwa[aK ih λR a b=>?_,-ih,(bV (X::R) ((a.cons X).trans<|.swap ..)<|(b.cons X).trans<|.swap ..)]
theorem Sat.mem(h:Sat C l s)(m:P∈l):∃R,Sat C (P::R) s:=by
 rwa[vF (List.append_of_mem m) λa b aH=>?_,!aH,⟨a++b,h.perm dw⟩]
section
variable{C:Cx}{A:c5}{l:List bp}{K:qo}{qual:bI}{scope:kE}{L f:br}{cdv:aG}{ns gs:List bI}{x:bI}{pos:Pos}{v:aG}{cl:List (bI×br)}
noncomputable abbrev eo(qual:bI)(scope:kE)(L f:br)(cdv:aG)(cl:List (bI×br)):DO:=envX qual scope L f cdv cl
theorem UE.imp(h:UE C A l env e P)(k:∀v,P v->P' v):UE C A l env e P':=λQ E s H q=>h Q E s H λv s' p H'=>q v s' (k v p) H'
theorem Cw(sc:mr scope ns gs)(hm:ml L ns vs∈l)(ha:At ns vs x (ae v)):EvV C A l (eo qual scope L f cdv cl) (.Name x pos) v:=λQ E s H q=>by
 exact c4 (H.mem hm) λR H'=>(rl (lH sc.kind (sc.locals _ ha.mem) H'.fr (ha.look sc.nodup)<|q _ _ rfl H)<|sc.uX _<|bB _ ha.mem)
theorem mX(G:Gl C K)(sc:mr scope ns gs)(hx:x∈gs)(e:T6 K eD x=ae (ae v)):EvV C A l (eo qual scope L f cdv cl) (.Name x pos) v:=λQ E s H q=>by
 exact yX G.top λp loose mg mb T=>(Oj sc.kind (sc.globals _ hx) (loadGlobal_global (env:=eo qual scope L f cdv cl) (T.g.keeps H.stays) (mg_of G.inn T.g e)<|q _ _ rfl H)<|sc.uX _<|a5 _ hx)
theorem Im{i}{t}(G:Gl C K)(sc:mr scope ns gs)(hx:x∈gs)(e:T6 K eD x=ae (ae<|.int i t)):EvI C A l (eo qual scope L f cdv cl) (.Name x pos) i:=
 (mX G sc hx e).imp λz e=>⟨t,e⟩
theorem Mk(G:Gl C K)(sc:mr scope ns gs)(hx:x∈gs)(e:T6 K eD x=ae aq)(hv:K5 x=ae v)(hn:x≠"__name__"):EvV C A l (eo qual scope L f cdv cl) (.Name x pos) v:=λQ E s H q=>by
 exact yX G.top λp loose mg mb T=>(Oj sc.kind (sc.globals _ hx) (loadGlobal_builtin (env:=eo qual scope L f cdv cl) (T.g.keeps H.stays) (mg_none_of G.inn T.g e) (T.b.keeps H.stays) ((T.builtins x hn).trans hv)<|q _ _ rfl H)<|sc.uX _<|a5 _ hx)
theorem QJ(sc:mr scope ns gs)(hp:Put ns vs x o v vs')(u:vI (ml L ns vs) (ml L ns vs') l l')(H:Sat C l s)(q:∀s',Sat C l' s'->Q () s'):
 aC (bx C.prog C.w) A (gy (eo qual scope L f cdv cl) x v) Q E s:=by
 erw [yW hp.idx λk a b c aH=>?_,!aH];have hl:(eo qual scope L f cdv cl).kindOf x=ae .local:=sc.locals _ hp.mem;erw [af (B1 hl (by erw [(?_:(scope.kind== .class||(scope.kind== .module&&L !=eD))=ao),af sc.kind];rfl) _) ?_,nn λzn=>?_,aK u.perm λR p1 p2=>?_];have H1:=H.perm p1;rwa[mq H1.frm λes ep o h1 h2 h3 h4 H2=>(aK H2.at λo' e n=>?_),zn,-zn,gP e (dq h2<|dq n<|af (c8 _) rfl) h3 λhash=>q _<|(H1.OU sc.nodup a c).perm p2.symm]
end
noncomputable def iz(ns:List bI):List (Option aG):=ns.map λz=>aq
theorem mY:∀(ns:List bI) (x:bI),look ns (iz ns) x=aq
 |[],x=>rfl
 |n::ns,x=>by
  show(if x=n then aq else look ns (iz ns) x)=aq;rw[mY ns x];split<;>rfl
def start(binds:List (bI×aG))(rest:List bI):List (Option aG):=binds.map (λb=>ae b.2)++iz rest
theorem vJ{code}(H:Sat C l s)(hk:scope.kind= .function)(hc:∀x∈scope.names,x.2≠ .cell)(hl:∀x∈binds,scope.names.lookup x.1=ae .local)(nd:(binds.map (·.1)++rest).Nodup)(hQ:∀L s1,Sat C (ml L (binds.map (·.1)++rest) (start binds rest)::l) s1->Q (T7 scope L globals closure qual func code aq builtins) s1):
 aC (bx C.prog C.w) A (eE scope globals closure binds qual func code aq builtins) Q E s:=by
 simp only[eE,FK,bE,if_false];simp only[T7] at hQ;refine ak<|tP ?_
 refine af (qeS closure (λx hx c=>by
  obtain⟨name,kind⟩:=x;have:(kind==qp)=ao:=by simpa using hc _ hx
  simp only[this,bE,if_false])) ?_
 refine ak<|au<|ak ?_
 have H0:Sat C (ml s.heap.objs.size (binds.map (·.1)++rest) (iz (binds.map (·.1)++rest))::l) {s with heap:=s.heap.push {cls:=.type "frame",data:=.dict #[]}}:=by
  rwa[(H.alloc (t:=s.toks) (o:={cls:=.type "frame",data:=.dict #[]}) rfl).imp λg hg=>?_,!hg,⟨_, #[],0,rfl,by(first |exact(ft _) |exact congrArg _ (ft _) |exact af (ft _) rfl),by(first |exact(c8 _) |exact congrArg _ (c8 _) |exact af (c8 _) rfl),λe he=>by simp at he,λx=>(mY _ x).symm⟩]
 refine ZJ _
  (λtodo z s'=>∃done,binds=done++todo/\Sat C (ml s.heap.objs.size (binds.map (·.1)++rest) (start done (todo.map (·.1)++rest))::l) s') _ ?_ ?_ binds _ (bV [] rfl<|by trivial)
 . rintro⟨name,v⟩ todo _ s' ⟨done,hb,H'⟩
   have HB:qeT {scope,locals:=s.heap.objs.size,globals,cells:=closure,qual,func,code,frame:=ae s.heap.objs.size,builtins} name=ae .local:=
    hl (name,v) (by refine af hb ?_;exact List.mem_append_cons_self)
   have hp:(({scope,locals:=s.heap.objs.size,globals,cells:=closure,qual,func,code,frame:=ae s.heap.objs.size,builtins}:DO).scope.kind== .class||(({scope,locals:=s.heap.objs.size,globals,cells:=closure,qual,func,code,frame:=ae s.heap.objs.size,builtins}:DO).scope.kind== .module&&
    ({scope,locals:=s.heap.objs.size,globals,cells:=closure,qual,func,code,frame:=ae s.heap.objs.size,builtins}:DO).locals !=({scope,locals:=s.heap.objs.size,globals,cells:=closure,qual,func,code,frame:=ae s.heap.objs.size,builtins}:DO).globals))=ao:=by
    erw [(?_:(scope.kind== .class||(scope.kind== .module&&_))=ao),af hk];rfl
   simp only[B1 HB hp];have hix:(binds.map (·.1)++rest)[done.length]? =ae name:=by erw [af hb];simp
   have ju:done.length<(start done (((name,v)::todo).map (·.1)++rest)).length:=by simp[start,iz]
   erw [nn λzn=>?_,mq H'.frm λes ep o h1 h2 h3 h4 H2=>?_,aK H2.at λo' e n=>?_,zn,-zn,ak<|gP e (dq h2<|dq n<|af (c8 _) rfl) h3 λhash=>au<|bV (done++[(name,v)]) (by simp[hb]) ?_];have:=H'.OU (t:=s'.toks+1) (tk:=s'.toks) (hash:=hash) (v:=v) nd hix ju
   have e2:(start done (((name,v)::todo).map (·.1)++rest)).set done.length (ae v)=start (done++[(name,v)]) (todo.map (·.1)++rest):=by
    simp[start,iz,List.set_append]
   rw[e2] at this;exact this
 . rintro _ s' ⟨done,hb,H'⟩
   rw[bD] at hb;rwa[!hb,au<|hQ _ _ H']
structure Io(K:Frag)(f:Addr)(qual:Str)(params:Arguments)(body:List Stmt)(scope:Scope)(dV:Value)(cdv:Value):Prop where
 there:∃oc od name kV doc pm an ct osl,K.lookup f=some ⟨oc,od,.func<|fnOf name qual params body scope dV kV doc pm an cdv ct,osl⟩
 code:codeIn K cdv qual=true
 cells:∀x∈scope.names,x.2≠ .cell
 co:scope.isCoroutine=false
 gen:scope.isGenerator=false
theorem Rm.deeper{C}{A}{n}(rm:Rm C A (n+1)){qual}{scope}{L f}{cdv}{cl}(hk:scope.kind= .function):Rm (C.push L) (A.deeper<|eo qual scope L f cdv cl) n:=by
 obtain⟨a,b,c,l,d,e⟩:=rm;refine⟨a,?_,?_,_,fz d,λenv he=>?_⟩
 . rwa[(?_:A.depth+1+2*n<_),‹a+2*(b+1)<c->a+1+2*b<c› b]
 . rwa[(?_:A.units+3+6*n<_),‹a+6*(b+1)<c->a+3+6*b<c› c]
 . rcases aV.mp he with rfl |q
   . exact⟨by refine af (show(eo qual scope L f cdv cl).scope.kind=scope.kind from rfl)<|af hk ?_;decide,L,.head _,rfl⟩
   . refine aT (e env q) λx aH=>?_;refine aK aH λL' y z=>?_;clear aH
     exact⟨x,L',.tail _ y,z⟩
theorem Rm.le(rm:Rm C A n)(h:m<=n):Rm C A m:=⟨rm.handled,by have:=rm.depth;exact‹(a<=b)^2->c+2*b<d->c+2*a<d› h this,by have:=rm.units;exact‹(a<=b)^6->c+6*b<d->c+6*a<d› h this,rm.frames⟩
theorem Sat.leave(h:Sat (C.push L) (ml L ns vs::R) s):Sat C R s:=h.pop.drop
structure Az(K:Frag)(Cl:Addr)(ns:List Str):Prop where
 get:plainGet K Cl ""=true
 has:hasDictIn K Cl=true
 over:plainOver K Cl=true
 set:findIn K (.ref Cl) "__setattr__"=some (some<|.builtin "object.__setattr__")
 nodup:ns.Nodup
 noAttr:∀x∈ns,findIn K (.ref Cl) x=some none
section
variable{K:qo}{Cl:br}{x:bI}
theorem Gd(hd:od.data= .dict es ep)(hk:jj es):lookIn x od=ae (jV es x):=by
 delta lookIn;erw [af hd];dsimp only;delta jV findBy;refine dq (Array.find?_toList) ?_
 cases q:es.toList.find? (λe=>e.key.isStr x) with
 |some e=>rfl
 |none=>
  have:es.toList.any (·.refKey)=ao:=by
   erw [af (propext ux),λe he=>?_,vF (hk e<|Array.mem_toList_iff.mp he) λn t h=>?_];simp[DN,h]
  erw [af this];rfl
theorem Sat.vK(h:Sat C (lO a Cl ns vs::R) s):∃dx od,InstAt s.heap a (hV Cl dx) Cl (ae od)/\∀x,lookIn x od=ae (look ns vs x):=by
 refine QF h.inst λdx od es ep h1 h2 h3 h4 h5 H=>?_;have e1:=H.get<|nofun;have e2:=(iC H).get (by rwa[af h1,nofun]);exact(vE dx od ⟨e1,rfl,rfl,e2⟩ λx=>by exact af (Gd h2 h3)<|af (h5 _) rfl)
theorem Ip(G:Gl C K)(ck:Az K Cl ns)(hm:lO a Cl ns vs∈l)(ha:At ns vs x (ae v))(hh:Ol v=ah)(H:Sat C l s)(q:∀s',Sat C l s'->Q v s'):
 aC (bx C.prog C.w) A (rn (.ref a) x expr) Q E s:=by
 rwa[nn λzn=>?_,c4 (H.mem hm) λR H'=>?_,n6 H'.vK λdx od I hl=>?_,zn,-zn,get_value (G.X H) I (tQ ck.get).1 (findObj_own ck.has (ck.noAttr _ ha.mem) rfl<|af (hl _)<|af (ha.look ck.nodup) rfl) hh<|q _ H.toks]
structure vL(K:Frag)(Cl:Addr)(x:Str)(f:Addr):Prop where
 get:plainGet K Cl ""=true
 find:findIn K (.ref Cl) x=some (some<|.ref f)
 fn:isFn K (.ref f)=true
theorem AA(G:Gl C K)(mk:vL K Cl x f)(hm:lO a Cl ns vs∈l)(hn:x∉ns)(H:Sat C l s)(q:Q (.ref f,[.ref a]) s):
 aC (bx C.prog C.w) A (k9 (.ref a) x pl) Q E s:=by
 erw [nn λzn=>?_,c4 (H.mem hm) λR H'=>?_,n6 H'.vK λdx od I hl=>?_]
 refine zn ?_;clear zn;have:look ns vs x=aq:=by
  clear hm H' hl q
  induction ns generalizing vs with
  |nil=>rfl
  |cons n ns ih=>
   cases vs with
   |nil=>rfl
   |cons w vs=>
    rwa[(?_:(if x=n then w else look ns vs x)=aq),af (if_neg λz=>hn<|by rwa[af z,.head _]),ih λz=>hn<|.tail _ z]
 exact method_fn (G.X H) I (tQ mk.get).1 (tQ mk.get).2 mk.find (beq_iff_eq.mp mk.fn) (by erw [(?_:(lookIn x od).map _=_),af (hl _)<|af this ?_];rfl) q
theorem HC{vs:List (Option aG)}:∀{k:Nat} {o:Option aG} {v:aG},vs[k]? =ae o->(vs.set k<|ae v).countP gx=if o.isSome then vs.countP gx else vs.countP gx+1:=by
 induction vs with
 |nil=>intro k o v h;contradiction
 |cons w vs ih=>intro k o v h;cases k with
  |zero=>
   injection h with h;subst h
   cases w<;>simp[nW]
  |succ k=>
   have h:vs[k]? =ae o:=h;rw[List.set_cons_succ,nW,ih h,nW]
   cases o with
   |none=>exact K6 _ _ _
   |some _=>rfl
theorem Iq(G:Gl C K)(ck:Az K Cl ns)(hp:Put ns vs x o v vs')(u:vI (lO a Cl ns vs) (lO a Cl ns vs') l l')(fX:vs.length<=900)(H:Sat C l s)(q:∀s',Sat C l' s'->Q () s'):
 aC (bx C.prog C.w) A (K7 (.ref a) x v) Q E s:=by
 erw [nn λzn=>?_,yW hp.idx λk ix iv il aH=>?_,!aH,aK u.perm λR p1 p2=>?_,zn,-zn];have H1:=H.perm p1;refine QF H1.inst λdx od es ep h1 h2 h3 h4 h5 H2=>?_;have e1:=H2.get<|nofun;have e2:=(iC H2).get (by rwa[af h1,nofun]);have I:InstAt s.heap a (hV Cl dx) Cl (ae od):=⟨e1,rfl,rfl,e2⟩;have X:=G.X H;have hna:=ck.noAttr x hp.mem;erw [set_plain X I ck.set,osa_open (r:=aq) (s:={s with toks:=s.toks+1}) X I ck.over (by unfold takerIn;erw [af hna];rfl) λb=>?_,nn λzn=>?_,aK (any_some ck.has) λcd hc D2=>?_,Ct (gO h2 h3 x (LS C.w.params x) (s.toks+1) v) λCo ep' d1 d2 d3 d4 d5 d6 d7=>?_]
 refine zn ?_;clear zn;have sz:Co.size<=1000:=by
  erw [af d7];have:vs.countP gx<=vs.length:=qc
  split<;>lia
 erw [ak<|au<|ak<|ak<|DP (o:=hV Cl dx) e1<|ak<|An X hc _ _ _ _ (λz z e=>e) ?_,af D2,au (a:=ae dx)<|ak<|au<|ak ?_,gP (s:={s with toks:=s.toks+1}) e2 h2 h3 λhash=>(Ct (gO h2 h3 x hash (s.toks+1) v) λCo ep' d1 d2 d3 d4 d5 d6 d7=>?_)]
 have sz:Co.size<=1000:=by
  erw [af d7];have:vs.countP gx<=vs.length:=qc
  split<;>lia
 have D':=bj (dy x hash (.str x<|s.toks+1) v) e2<|gq d1;erw [ak (qq D' (by rwa[af d1,zT<|by rwa[af bw,‹a<=1000->a<=16777216+1› sz]]) ?_),au<|q _ ?_];have H3:=(iC H2).set (t:=s.toks+1+1) (bu s.heap dx<|dy x hash (.str x<|s.toks+1) v) D' (.inl ⟨λvs q=>by(rw[d1] at q;contradiction),d2⟩);rw[bU<|by rwa[af d2<|af h1 ?_,nofun]] at H3;exact((iC H3).Ec (by rwa[af d2,h1]) d1 d5 (af d7<|af (h5 _)<|af (Eb ck.nodup ix iv)<|af h4<|af (HC iv) rfl) λy=>by exact af (d6 _)<|af (h5 _)<|af (Ay ck.nodup ix il _) rfl).perm p2.symm
end
abbrev oR(Q:aG->aE->Prop)(E:aG->aE->Prop):zU->aE->Prop:=λr s'=>match r with |.ok (.ret v)=>Q v s' |.ok _=>False |.error e=>E e s'
noncomputable def lX:List gK:=PySem.Challenge.pw_pq1224_01.main.body
noncomputable def QK(c:Option Nat):List gK:=c.elim lX λi=>(lX[i]?.map Vo).getD []
structure DE where
 f:Nat
 qual:Str
 c:Option Nat
 i:Nat
 dV:Value
 ns:List Str
 gs:List Str
noncomputable def DE.body(e:DE):List gK:=(((QK e.c)[e.i]?.bind Cv).map (·.2.1)).getD []
noncomputable def DE.scope(e:DE):kE:=(((QK e.c)[e.i]?.bind Cv).map (·.2.2)).getD default
noncomputable def DE.params(e:DE):zS:=(((QK e.c)[e.i]?.bind Cv).map (·.1)).getD ⟨[],[],aq,[],[],aq,[]⟩
noncomputable def dT:List DE:=[
 ⟨36,"PressError.__init__",(ae 2),0,.ref 29,["self","reason"],["ValueError"]⟩,
 ⟨135,"TooLarge.__init__",(ae 9),0,.none,["self","kind","size","most"],["PressError"]⟩,
 ⟨154,"Cells.__init__",(ae 23),0,.none,["self","count"],[]⟩,
 ⟨168,"Cells.__getitem__",(ae 23),2,.none,["self","index"],["BadArgument","START"]⟩,
 ⟨175,"Cells.__setitem__",(ae 23),3,.none,["self","index","model"],["BadArgument"]⟩,
 ⟨189,"fresh",aq,24,.none,["count"],["SHORT_ROW","START","Cells"]⟩,
 ⟨204,"Props.__init__",(ae 25),0,.ref 197,["self","lc","lp","pb","number","most"],["isinstance","int","BadArgument"]⟩,
 ⟨218,"Props.literals",(ae 25),2,.none,["self"],["LITERAL_ROW"]⟩,
 ⟨225,"Props.position",(ae 25),3,.none,["self","place"],[]⟩,
 ⟨239,"after_literal",aq,26,.none,["state"],[]⟩,
 ⟨246,"after_match",aq,27,.none,["state"],["LITERAL_STATES"]⟩,
 ⟨267,"is_after_literal",aq,30,.none,["state"],["LITERAL_STATES"]⟩,
 ⟨274,"length_state",aq,31,.none,["length"],["min","LEAST_MATCH","LENGTH_STATES"]⟩,
 ⟨281,"slot_base",aq,32,.none,["slot","extra"],[]⟩,
 ⟨288,"slot_of",aq,33,.none,["distance","number","high","slot","extra","base"],["slot_base"]⟩,
 ⟨302,"LengthModels.__init__",(ae 34),0,.none,["self","positions"],[]⟩,
 ⟨309,"LengthModels.reset",(ae 34),1,.none,["self"],["fresh"]⟩,
 ⟨330,"Models.__init__",(ae 35),0,.none,["self","props"],["LengthModels"]⟩,
 ⟨337,"Models.reset",(ae 35),1,.none,["self"],["fresh","STATES","MOST_POSITIONS","LENGTH_STATES","FIRST_DIRECT","ALIGN_BITS"]⟩,
 ⟨344,"Models.cell",(ae 35),2,.none,["self","state","place"],["MOST_POSITIONS"]⟩,
 ⟨351,"Models.slot_start",(ae 35),3,.none,["self","length"],["length_state"]⟩,
 ⟨358,"Models.special_start",(ae 35),4,.none,["self","slot","extra","base"],["slot_base"]⟩,
 ⟨365,"Models.literal_start",(ae 35),5,.none,["self","place","before","high"],["LITERAL_ROW"]⟩,
 ⟨388,"Reps.__init__",(ae 36),0,.ref 381,["self","row"],["list"]⟩,
 ⟨395,"Reps.reset",(ae 36),1,.none,["self"],[]⟩,
 ⟨402,"Reps.first",(ae 36),2,.none,["self"],[]⟩,
 ⟨416,"Reps.put",(ae 36),4,.none,["self","distance"],[]⟩,
 ⟨437,"read_length",aq,44,.none,["reader","models","pos"],["LEAST_MATCH","LOW_LENGTHS","LOW_BITS","HIGH_BITS"]⟩,
 ⟨444,"read_distance",aq,45,.none,["reader","models","length","slot","extra","base","high"],["SLOT_BITS","FIRST_EXTRA","slot_base","FIRST_DIRECT","ALIGN_BITS"]⟩,
 ⟨451,"read_literal",aq,46,.none,["reader","literals","start","found"],[]⟩,
 ⟨458,"read_matched",aq,47,.none,["reader","literals","start","beside","found","rest","due","bit"],[]⟩,
 ⟨465,"length_of",aq,48,.none,["step"],[]⟩,
 ⟨480,"PacketReader.__init__",(ae 49),0,.ref 473,["self","models","window","most"],["Reps"]⟩,
 ⟨487,"PacketReader.reset_state",(ae 49),1,.none,["self"],[]⟩,
 ⟨494,"PacketReader.forget",(ae 49),2,.none,["self"],[]⟩,
 ⟨515,"PacketReader.must_go_on",(ae 49),5,.none,["self"],["BadArgument"]⟩,
 ⟨522,"PacketReader.must_reach",(ae 49),6,.none,["self","distance"],["BadDistance"]⟩,
 ⟨529,"PacketReader.must_fit",(ae 49),7,.none,["self","length"],["TooLarge"]⟩,
 ⟨536,"PacketReader.literal_step",(ae 49),8,.none,["self","reader","before","start","octet"],["is_after_literal","read_literal","read_matched","after_literal"]⟩,
 ⟨543,"PacketReader.match_step",(ae 49),9,.none,["self","reader","length","distance"],["read_length","read_distance","after_match","END_DISTANCE"]⟩,
 ⟨564,"PacketReader.next_step",(ae 49),12,.none,["self","reader"],[]⟩,
 ⟨571,"PacketReader.play",(ae 49),13,.none,["self","step","length"],["length_of","bytes"]⟩,
 ⟨578,"PacketReader.run",(ae 49),14,.none,["self","reader","size","end_let","made","step"],["bytearray","len","bytes"]⟩,
 ⟨585,"PacketReader.must_have_end",(ae 49),15,.none,["self","size","end_let"],["BadArgument"]⟩,
 ⟨592,"PacketReader.is_end",(ae 49),16,.none,["self","step","size","made"],["length_of","BadSize","KIND"]⟩,
 ⟨614,"LzmaReader.__init__",(ae 50),0,.ref 607,["self","models","window","most"],["PacketReader"]⟩,
 ⟨621,"LzmaReader.reset_state",(ae 50),1,.none,["self"],["PacketReader"]⟩,
 ⟨628,"LzmaReader.forget",(ae 50),2,.none,["self"],["PacketReader"]⟩,
 ⟨635,"LzmaReader.must_be_whole",(ae 50),3,.none,["self"],["BadSize","KIND"]⟩,
 ⟨642,"LzmaReader.mark",(ae 50),4,.none,["self","reader","step"],["BadSize","KIND","length_of"]⟩,
 ⟨649,"LzmaReader.piece",(ae 50),5,.none,["self","reader","most","made","step"],["BadArgument","bytearray","len","length_of","bytes"]⟩,
 ⟨656,"LzmaReader.rest_of",(ae 50),6,.none,["self","most","part"],["min"]⟩,
 ⟨663,"LzmaReader.finish",(ae 50),7,.none,["self","reader","end_let"],["BadSize","KIND"]⟩,
 ⟨670,"LzmaReader.steps",(ae 50),8,.none,["self","reader","size","end_let","found","made","step"],["len"]⟩,
 ⟨683,"need_whole",aq,53,.none,["number","word"],["isinstance","int","bool","BadArgument"]⟩,
 ⟨690,"need_number",aq,54,.none,["number","least","most","word"],["need_whole","BadArgument"]⟩,
 ⟨697,"step_length",aq,55,.none,["step"],["isinstance","tuple","len","KINDS","BadArgument","need_whole","need_number","LEAST_MATCH","MOST_MATCH"]⟩,
 ⟨704,"repeats",aq,56,.none,["octets","at","distance","length","here"],["len","range"]⟩,
 ⟨711,"octet_behind",aq,57,.none,["octets","at","distance"],["BadArgument"]⟩,
 ⟨725,"StepCoder.__init__",(ae 58),0,.none,["self","models","writer"],[]⟩,
 ⟨732,"StepCoder.put_literal",(ae 58),1,.none,["self","state","place","before","octet","matched","start"],["is_after_literal"]⟩,
 ⟨739,"StepCoder.put_plain",(ae 58),2,.none,["self","start","node","octet","count","shift","bit"],["range"]⟩,
 ⟨746,"StepCoder.put_beside",(ae 58),3,.none,["self","start","octet","matched","node","shift","foretold","bit"],["range"]⟩,
 ⟨753,"StepCoder.put_length",(ae 58),4,.none,["self","lengths","place","length","number","row"],["LEAST_MATCH"]⟩,
 ⟨760,"StepCoder.put_distance",(ae 58),5,.none,["self","distance","length","slot","extra","base","rest"],["slot_of","FIRST_DIRECT","ALIGN_BITS"]⟩,
 ⟨767,"StepCoder.put_match",(ae 58),6,.none,["self","state","place","distance","length"],[]⟩,
 ⟨809,"LzmaWriter.__init__",(ae 59),0,.none,["self","models","writer"],["StepCoder","Reps"]⟩,
 ⟨837,"LzmaWriter.check_back",(ae 59),4,.none,["self","distance"],["need_whole","BadDistance"]⟩,
 ⟨844,"LzmaWriter.check_length",(ae 59),5,.none,["self","length"],["need_number","LEAST_MATCH","MOST_MATCH"]⟩,
 ⟨851,"LzmaWriter.literal",(ae 59),6,.none,["self","octet","before","matched","number"],["need_number","after_literal"]⟩,
 ⟨858,"LzmaWriter.match",(ae 59),7,.none,["self","distance","length"],["after_match"]⟩,
 ⟨879,"LzmaWriter.end_mark",(ae 59),10,.none,["self"],["END_DISTANCE","LEAST_MATCH","after_match"]⟩,
 ⟨886,"LzmaWriter.matched_octet",(ae 59),11,.none,["self","octets","at"],["is_after_literal","octet_behind"]⟩,
 ⟨893,"LzmaWriter.distance_of",(ae 59),12,.none,["self","step"],["need_number"]⟩,
 ⟨900,"LzmaWriter.write_step",(ae 59),13,.none,["self","step","octets","at","length","before","distance"],["step_length","len","BadArgument","octet_behind","repeats"]⟩,
 ⟨907,"LzmaWriter.write_steps",(ae 59),14,.none,["self","steps","octets","start","at","step"],[]⟩,
 ⟨933,"Window.__init__",(ae 61),0,.none,["self","size"],["BadArgument"]⟩,
 ⟨940,"Window.clear",(ae 61),1,.none,["self"],["bytearray"]⟩,
 ⟨947,"Window.have",(ae 61),2,.none,["self"],["len"]⟩,
 ⟨955,"Window.put",(ae 61),3,.none,["self","octet"],["len"]⟩,
 ⟨969,"Window.need",(ae 61),5,.none,["self","distance"],["BadDistance","str"]⟩,
 ⟨976,"Window.at",(ae 61),6,.none,["self","distance","place"],["len"]⟩,
 ⟨983,"Window.copy",(ae 61),7,.none,["self","distance","length","told","turn","octet"],["bytearray","range","bytes"]⟩,
 ⟨990,"Window.octets",(ae 61),8,.none,["self"],["bytes"]⟩,
 ⟨1011,"next_model",aq,71,.none,["model","bit"],["TOTAL","LEARN"]⟩,
 ⟨1018,"need_bit",aq,72,.none,["bit"],["BadArgument"]⟩,
 ⟨1025,"need_value",aq,73,.none,["value","count"],["BadArgument"]⟩,
 ⟨1040,"RangeReader.__init__",(ae 74),0,.ref 1033,["self","octets","start","end","turn"],["bytes","len","BadArgument","MOST_SPAN","BadHeader","range","FLUSHED","BadCode"]⟩,
 ⟨1047,"RangeReader.octet",(ae 74),1,.none,["self"],["CutShort"]⟩,
 ⟨1068,"RangeReader.ended",(ae 74),4,.none,["self"],[]⟩,
 ⟨1075,"RangeReader.fill",(ae 74),5,.none,["self"],["LEAST_SPAN"]⟩,
 ⟨1082,"RangeReader.bit",(ae 74),6,.none,["self","models","index","model","bound","found"],["MODEL_BITS","int","next_model"]⟩,
 ⟨1089,"RangeReader.direct",(ae 74),7,.none,["self","count","value","turn","found"],["range","int","BadCode"]⟩,
 ⟨1096,"RangeReader.tree",(ae 74),8,.none,["self","models","start","count","node","turn"],["range"]⟩,
 ⟨1103,"RangeReader.reverse",(ae 74),9,.none,["self","models","start","count","node","value","place","found"],["range"]⟩,
 ⟨1124,"RangeWriter.__init__",(ae 75),0,.none,["self"],["bytearray","MOST_SPAN"]⟩,
 ⟨1131,"RangeWriter.shift",(ae 75),1,.none,["self","carry"],["MAY_CARRY","CARRY","bytes","LEAST_SPAN"]⟩,
 ⟨1138,"RangeWriter.fill",(ae 75),2,.none,["self"],["LEAST_SPAN"]⟩,
 ⟨1145,"RangeWriter.need_open",(ae 75),3,.none,["self"],["BadArgument"]⟩,
 ⟨1152,"RangeWriter.bit",(ae 75),4,.none,["self","models","index","bit","model","bound"],["need_bit","MODEL_BITS","next_model"]⟩,
 ⟨1159,"RangeWriter.direct",(ae 75),5,.none,["self","count","value","place"],["need_value","range"]⟩,
 ⟨1166,"RangeWriter.tree",(ae 75),6,.none,["self","models","start","count","value","node","place","bit"],["need_value","range"]⟩,
 ⟨1173,"RangeWriter.reverse",(ae 75),7,.none,["self","models","start","count","value","node","place","bit"],["need_value","range"]⟩,
 ⟨1187,"RangeWriter.done",(ae 75),9,.none,["self","turn"],["range","FLUSHED","bytes"]⟩,
 ⟨1201,"_law_rows",aq,77,.none,[],[]⟩,
 ⟨1208,"_law_take",aq,78,.none,["box","many","n"],["len","abs"]⟩,
 ⟨1215,"_law_text",aq,79,.none,["box","steps","whole","turn","far","many","copy"],["bytearray","range","_law_take","len","bytes"]⟩,
 ⟨1222,"_law_models",aq,80,.none,["row"],["Models","Props"]⟩,
 ⟨1227,"_law_data",aq,81,.none,["row","steps","octets","is_marked","writer","maker"],["RangeWriter","LzmaWriter","_law_models"]⟩,
 ⟨1234,"_law_word",aq,82,.none,["work"],["TooLarge","BadArgument"]⟩,
 ⟨1241,"_law_stand",aq,83,.none,["coder","packets"],[]⟩,
 ⟨1253,"_law_told",aq,85,.none,["way","coder","packets","octets","is_marked","size","found"],["len","int"]⟩,
 ⟨1260,"_law_kept",aq,86,.none,["steps","most","made","step","many"],[]⟩]
theorem gi{α:Type}{β:Type}[BEq α][LawfulBEq α]:∀{l:List (α×β)} {a:α} {b:β},l.lookup a=ae b->(a,b)∈l
 |(x,y)::l,a,b,h=>by
  rw[dN] at h
  cases e:a==x with
  |true=>rw[e] at h;(injection h with h;subst h);rw[beq_iff_eq.mp e];exact .head _
  |false=>rw[e] at h;exact .tail _<|gi h
noncomputable def Ed(scope:kE)(ns gs:List bI):Bool:=(scope.kind== .function)&&decide ns.Nodup&&ns.all (λx=>scope.names.lookup x==ae .local)&&gs.all (λx=>scope.names.lookup x==ae .globalImplicit)&&(ns++gs).all (λx=> !(x==("__debug__":bI)))&&scope.names.all (λp=> !(p.2== .local)||ns.contains p.1)
theorem uY(h:Ed scope ns gs=ah):mr scope ns gs:=by
 unfold Ed at h;simp only[bG,a4,beq_iff_eq,decide_eq_true_eq,dC] at h;refine⟨h.1.1.1.1.1,h.1.1.1.1.2,h.1.1.1.2,h.1.1.2,h.1.2,λx hx=>?_⟩;have:=h.2 _<|gi hx;exact cY this
theorem AB:∀e∈dT,mr e.scope e.ns e.gs:=λe he=>uY (a4.mp (show dT.all (λe=>Ed e.scope e.ns e.gs)=ah by rfl) e he)
noncomputable def qP(f:Nat):Option DE:=dT.find? (·.f==f)
theorem kF(h:qP f=ae e):e∈dT/\e.f=f:=⟨List.mem_of_find?_eq_some h,by have:=List.find?_some h;simpa using this⟩
noncomputable def Ee:List Nat:=dT.map (·.f)
theorem Ef(h:f∈Ee):∃e,qP f=ae e:=by
 cases e:qP f with
 |some x=>exact⟨x,rfl⟩
 |none=>
  erw [aK (dW.mp h) λx hx aH=>?_,!aH];have:=List.find?_eq_none.mp e x hx;simp at this
noncomputable def FU:List bI:=[ab "count",ab "learnt",ab "lc",ab "lp",ab "pb",ab "positions",ab "choice",ab "low",ab "mid",ab "high",ab "props",ab "is_match",ab "is_rep",ab "is_rep0",ab "is_rep1",ab "is_rep2",ab "is_rep0_long",ab "slots",ab "special",ab "align",ab "literals",ab "lengths",ab "rep_lengths",ab "row",ab "models",ab "window",ab "most",ab "place",ab "state",ab "reps",ab "marked",ab "rest",ab "writer",ab "size",ab "total",ab "ring",ab "spot",ab "data",ab "stop",ab "start",ab "span",ab "code",ab "made",ab "cache",ab "held",ab "closed",ab "have"]
noncomputable def OW(i:Nat):bI:=FU.getD i default
noncomputable def sJ:List bI:=[ab "__init__",ab "__getitem__",ab "__setitem__",ab "literals",ab "position",ab "reset",ab "cell",ab "slot_start",ab "special_start",ab "literal_start",ab "first",ab "put",ab "reset_state",ab "forget",ab "must_be_whole",ab "mark",ab "piece",ab "rest_of",ab "finish",ab "steps",ab "must_go_on",ab "must_reach",ab "must_fit",ab "literal_step",ab "match_step",ab "next_step",ab "play",ab "run",ab "must_have_end",ab "is_end",ab "check_back",ab "check_length",ab "literal",ab "match",ab "end_mark",ab "matched_octet",ab "distance_of",ab "write_step",ab "write_steps",ab "put_literal",ab "put_plain",ab "put_beside",ab "put_length",ab "put_distance",ab "put_match",ab "clear",ab "need",ab "at",ab "copy",ab "octets",ab "octet",ab "ended",ab "fill",ab "bit",ab "direct",ab "tree",ab "reverse",ab "shift",ab "need_open",ab "done",ab "append",ab "extend",ab "bit_length",ab "get",ab "have"]
noncomputable def Cy(i:Nat):bI:=sJ.getD i default
noncomputable def ij:Nat:=60
noncomputable def oO:Nat:=61
noncomputable def mZ:Nat:=62
noncomputable def AD:Nat:=63
noncomputable def oP:List (Nat×List Nat):=[(178,[0,1]),(228,[2,3,4]),(312,[5,6,7,8,9]),(368,[10,11,12,13,14,15,16,17,18,19,20,21,22]),(426,[23]),(673,[24,25,26,27,28,29,30,31]),(917,[24,32,27,28,29]),(1000,[33,34,35,36]),(1106,[37,38,39,27,40,41]),(1190,[42,7,40,43,44,45])]
noncomputable def lk{α:Type}:List (Nat×α)->Nat->Option α
 |[],_=>aq
 |(k,v)::l,n=>match b0 k n with
  |true=>ae v
  |false=>lk l n
theorem qbj{α:Type}{k:Nat}{n:Nat}{w:α}{l:List (Nat×α)}:lk ((k,w)::l) n=(match b0 k n with |true=>ae w |false=>lk l n):=rfl
theorem sX:∀{l:List (Nat×α)} {n:Nat} {v:α},lk l n=ae v->(n,v)∈l
 |(k,w)::l,n,v,h=>by
  rw[qbj] at h
  cases e:b0 k n with
  |true=>rw[e] at h;(injection h with h;subst h);rw[bK e];exact .head _
  |false=>rw[e] at h;exact .tail _<|sX h
noncomputable def xY:List Nat->Nat->Option Nat
 |[],_=>aq
 |k::l,n=>match b0 k n with
  |true=>ae 0
  |false=>match xY l n with
   |some i=>ae<|i+1
   |none=>aq
theorem QL{k}{n}{l}:xY (k::l) n=(match b0 k n with |true=>ae 0 |false=>(match xY l n with |some i=>ae (i+1) |none=>aq)):=rfl
theorem Eg:∀{l:List Nat} {n i:Nat},xY l n=ae i->l[i]? =ae n
 |k::l,n,i,h=>by
  rw[QL] at h
  cases e:b0 k n with
  |true=>rw[e] at h;(injection h with h;subst h);rw[bK e];rfl
  |false=>
   rw[e] at h
   cases e2:xY l n with
   |none=>rw[e2] at h;contradiction
   |some j=>rw[e2] at h;(injection h with h;subst h);exact(Eg (l:=l) e2:l[j]? =ae n)
def qQ(c:Nat):List Nat:=(lk oP c).getD []
def eG(c:Nat):List bI:=(qQ c).map OW
noncomputable def ua:List (Nat×List (Nat×Nat)):=[(178,[(0,154),(1,168),(2,175)]),(228,[(0,204),(3,218),(4,225)]),(312,[(0,302),(5,309)]),(368,[(0,330),(5,337),(6,344),(7,351),(8,358),(9,365)]),(426,[(0,388),(5,395),(10,402),(11,416)]),(673,[(0,614),(12,621),(13,628),(14,635),(15,642),(16,649),(17,656),(18,663),(19,670),(20,515),(21,522),(22,529),(23,536),(24,543),(25,564),(26,571),(27,578),(28,585),(29,592)]),(917,[(0,809),(30,837),(31,844),(32,851),(33,858),(34,879),(35,886),(36,893),(37,900),(38,907),(39,732),(40,739),(41,746),(42,753),(43,760),(44,767)]),(1000,[(0,933),(45,940),(11,955),(46,969),(47,976),(48,983),(49,990)]),(1106,[(0,1040),(50,1047),(51,1068),(52,1075),(53,1082),(54,1089),(55,1096),(56,1103)]),(1190,[(0,1124),(57,1131),(52,1138),(58,1145),(53,1152),(54,1159),(55,1166),(56,1173),(59,1187)])]
def mt(c y:Nat):Option Nat:=lk ((lk ua c).getD []) y
noncomputable def ub:List (Nat×List (Nat×Nat)):=[(595,[(0,480),(12,487),(13,494),(20,515),(21,522),(22,529),(23,536),(24,543),(25,564),(26,571),(27,578),(28,585),(29,592)]),(791,[(0,725),(39,732),(40,739),(41,746),(42,753),(43,760),(44,767)]),(39,[(0,36)])]
def cmt(c y:Nat):Option Nat:=lk ((lk ub c).getD []) y
noncomputable def Ir:Nat:=46
noncomputable def AE:List Nat:=[178,228,312,368,426,673,917,1000,1106,1190]
noncomputable abbrev vM:List (bI×Int×Tok):=[(ab "ALIGN_BITS",4,382),(ab "CARRY",4294967296,1596),(ab "END_DISTANCE",4294967296,386),(ab "FIRST_DIRECT",14,380),(ab "FIRST_EXTRA",4,779),(ab "FLUSHED",5,1602),(ab "HIGH_BITS",8,775),(ab "LEARN",5,1582),(ab "LEAST_MATCH",2,372),(ab "LEAST_SPAN",16777216,1586),(ab "LENGTH_STATES",4,376),(ab "LITERAL_ROW",768,378),(ab "LITERAL_STATES",7,366),(ab "LOW_BITS",3,773),(ab "LOW_LENGTHS",8,771),(ab "MAY_CARRY",4278190080,1600),(ab "MODEL_BITS",11,1577),(ab "MOST_MATCH",273,374),(ab "MOST_POSITIONS",16,368),(ab "MOST_SPAN",4294967295,1592),(ab "SHORT_ROW",64,388),(ab "SLOT_BITS",6,777),(ab "START",1024,370),(ab "STATES",12,364),(ab "TOTAL",2048,1580)]
noncomputable abbrev oQ:List (bI×br):=[(ab "BadArgument",100),(ab "BadCode",64),(ab "BadDistance",76),(ab "BadHeader",88),(ab "BadSize",119),(ab "Cells",178),(ab "CutShort",52),(ab "KINDS",676),(ab "LengthModels",312),(ab "LzmaReader",673),(ab "LzmaWriter",917),(ab "Models",368),(ab "PacketReader",595),(ab "PressError",39),(ab "Props",228),(ab "RangeReader",1106),(ab "RangeWriter",1190),(ab "Reps",426),(ab "StepCoder",791),(ab "TooLarge",138),(ab "Window",1000),(ab "_law_closed_right",1246),(ab "_law_data",1227),(ab "_law_kept",1260),(ab "_law_models",1222),(ab "_law_rows",1201),(ab "_law_stand",1241),(ab "_law_take",1208),(ab "_law_text",1215),(ab "_law_told",1253),(ab "_law_word",1234),(ab "after_literal",239),(ab "after_match",246),(ab "fresh",189),(ab "is_after_literal",267),(ab "length_of",465),(ab "length_state",274),(ab "need_bit",1018),(ab "need_number",690),(ab "need_value",1025),(ab "need_whole",683),(ab "next_model",1011),(ab "octet_behind",711),(ab "read_distance",444),(ab "read_length",437),(ab "read_literal",451),(ab "read_matched",458),(ab "repeats",704),(ab "slot_base",281),(ab "slot_of",288),(ab "step_length",697)]
noncomputable abbrev gX:List (bI×aG):=[(ab "int",.type "int"),(ab "len",.builtin "len"),(ab "range",.type "range"),(ab "bytes",.type "bytes"),(ab "bytearray",.type "bytearray"),(ab "isinstance",.builtin "isinstance"),(ab "min",.builtin "min"),(ab "abs",.builtin "abs"),(ab "list",.type "list"),(ab "bool",.type "bool"),(ab "str",.type "str"),(ab "tuple",.type "tuple"),(ab "ValueError",.type "ValueError")]
noncomputable abbrev vN:List (br×List aG):=[(29,[.str (ab "") 208]),(197,[.int 3 463,.int 0 464,.int 2 465]),(381,[.ref 380]),(473,[.none]),(607,[.none]),(1033,[.int 0 1639,.none]),(380,[.int 1 710,.int 1 711,.int 1 712,.int 1 713]),(676,[.str (ab "lit") 1116,.str (ab "match") 1117,.str (ab "rep") 1118,.str (ab "short") 1119])]
theorem Iu:∀p∈ua,∀q∈p.2,Cy q.1∉eG p.1:=by decide+kernel
theorem AF(h:qQ c≠[]):(c,qQ c)∈oP:=by
 unfold qQ at h |-
 cases e:lk oP c with
 |none=>rw[e] at h;exact absurd rfl h
 |some v=>exact sX e
theorem QM:∀p∈oP,p.2.Nodup/\p.2.length<=900/\∀y∈p.2,y<FU.length:=by decide+kernel
theorem Cz(h:mt c y=ae f):∃l,(c,l)∈ua/\(y,f)∈l:=by
 unfold mt at h
 cases e:lk ua c with
 |none=>rw[e] at h;contradiction
 |some v=>rw[e] at h;exact(bV v (sX e)<|sX h)
theorem AG:∀p∈ua,∀q∈p.2,q.1<sJ.length/\q.2∈Ee:=by decide+kernel
theorem Ml(h:cmt c y=ae f):∃l,(c,l)∈ub/\(y,f)∈l:=by
 unfold cmt at h
 cases e:lk ub c with
 |none=>rw[e] at h;contradiction
 |some v=>rw[e] at h;exact(bV v (sX e)<|sX h)
theorem Iv:∀p∈ub,∀q∈p.2,q.1<sJ.length/\q.2∈Ee:=by decide+kernel
structure Eh(K:Frag)(c:Addr)(x:Str)(f:Addr):Prop where
 ga:specialIn K (.ref c) "__getattribute__"=some (some<|.builtin "type.__getattribute__")
 rd:readsIn K c (.type "type")=true
 val:findCls K (.ref c) (.type "type") x=some (.val<|.ref f)
noncomputable abbrev jb:List aG:=[.ref 39,.type "ValueError",.type "Exception",.type "BaseException",.type "object"]
noncomputable def OX(c:Nat):bI×Nat×Nat×Nat×Nat:=match b0 c 100 with
 |true=>(ab "BadArgument",99,91,288,296)
 |false=>(ab "TooLarge",137,122,333,341)
abbrev exO(c:Nat):fy:=tR (OX c).1 (OX c).1 c (OX c).2.1 [.ref 39] jb ah [] [] ao aq aq (ae<|.ref (OX c).2.2.1) aq (ae<|.str (OX c).1 (OX c).2.2.2.1) (ae<|.str (OX c).1 (OX c).2.2.2.2) (ae<|.bool ah) "ValueError.__new__"
structure sY(K:Frag)(c f:Nat):Prop where
 ob:K.lookup c=some (exO c)
 ini:findIn K (.ref c) "__init__"=some (some<|.ref f)
 fn:isFn K (.ref f)=true
 set:findIn K (.ref c) "__setattr__"=some (some<|.builtin "object.__setattr__")
 no:∀x∈[Str.ofString "reason",Str.ofString "kind",Str.ofString "size",Str.ofString "most"],findIn K (.ref c) x=some none
structure QN(K:Frag)(f:Addr)(qual:Str)(params:Arguments)(body:List Stmt)(scope:Scope)(dV:Value)(cdv:Value):Prop where
 there:∃oc od name kV doc pm an ct osl,K.lookup f=some ⟨oc,od,.func<|fnOf name qual params body scope dV kV doc pm an cdv ct,osl⟩
 code:codeIn K cdv qual=true
 co:scope.isCoroutine=false
 gen:scope.isGenerator=false
noncomputable def uH:DE:=⟨1246,"_law_closed_right",aq,84,.none,["there","works","work"],["_law_stand","_law_word"]⟩
noncomputable def sO:DE:=⟨1265,"law",aq,87,.none,["script","box","row","most","turn","steps","data","goal","found"],["list","_law_rows","_law_take","LzmaReader","_law_models","Window","range","_law_text","_law_data","RangeReader","bytes","_law_kept","_law_word","len","_law_closed_right"]⟩
theorem OY:mr uH.scope uH.ns uH.gs/\mr sO.scope sO.ns sO.gs:=⟨uY (by rfl),uY<|by rfl⟩
structure KF(K:Frag):Prop where
 OZ:∀e∈dT,Io K e.f e.qual e.params e.body e.scope e.dV<|.ref<|e.f-1
 Iw:∀e∈[uH,sO],QN K e.f e.qual e.params e.body e.scope e.dV<|.ref<|e.f-1
 Iy:∀p∈ua,∀q∈p.2,vL K p.1 (Cy q.1) q.2
 CA:∀c∈AE,makesIn K c=true
 O0:∀e∈vM,nsIn K mainGlobals e.1=some (some<|.int e.2.1 e.2.2)
 vO:∀e∈oQ,nsIn K mainGlobals e.1=some (some<|.ref e.2)
 O1:∀e∈gX,nsIn K mainGlobals e.1=some none
 O2:∀e∈oP,Az K e.1<|e.2.map OW
 rG:∀e∈vN,K.lookup e.1=some {cls:=.type "tuple",data:=.seq e.2.toArray 0}
 QO:∀p∈ub,∀q∈p.2,Eh K p.1 (Cy q.1) q.2
 yY:sY K 100 36/\sY K 138 135
 QP:∀p∈[(1245,1243),(1264,1262)],∀h:Heap,K.In h->CodeHd h p.1 p.2
 kBm:∃bm ob,nsIn K mainGlobals "__builtins__"=some (some<|.ref bm)/\bm≠builtinsNs/\bm≠mainGlobals/\K.lookup bm=some ob/\ob.cls= .type "module"/\ob.dict=some builtinsNs/\ob.data= .plain
 h1:findIn K (.ref 1000) "have"=some (some<|.ref 948)
 h2:specialIn K (.ref 948) "__get__"=some (some<|.builtin "property.__get__")
 h3:takesIn K (.ref 948)=some true
 h4:recIn K 948 "property"=some [.ref 947,.none,.none,.none,.str (Str.ofString "have") 1502,.bool false]
 AH:noSeq K 178=true
 AI:findIn K (.ref 178) "__getitem__"=some (some<|.ref 168)
 AJ:fnIn K 168=true
 AK:isFn K (.ref 168)=true
 AL:findIn K (.ref 178) "__setitem__"=some (some<|.ref 175)
 AM:isFn K (.ref 175)=true
theorem CB{K}(F:KF K){c}(h:qQ c≠[]):Az K c (eG c):=F.O2 _<|AF h
theorem Iz{K}(F:KF K){c y f}(h:mt c y=ae f):vL K c (Cy y) f/\Cy y∉eG c/\∃e,qP f=ae e:=
 let⟨_,a,b⟩:=Cz h
 (gp (F.Iy _ a _ b) (Iu _ a _ b)<|Ef (AG _ a _ b).2)
theorem vP{K}(F:KF K){f}{e}(h:qP f=ae e):Io K f e.qual e.params e.body e.scope e.dV (.ref<|f-1):=by
 rwa[aT (kF h) λa aH=>?_,!aH,F.OZ e a]
noncomputable def vQ:List Nat:=Ee++[1246]
theorem AN{K}(F:KF K){f}(h:f∈vQ):∃oc od fd osl,K.lookup f=ae ⟨oc,od,.func fd,osl⟩:=by
 rcases Oo.mp h with h |h
 . refine nn λzn=>?_;refine c4 (Ef h) λd ed=>?_
   rwa[Ij ((vP F ed).there) λoc od nm' kV doc pm an ct osl OE=>?_,zn,-zn,(QC _ _ _ _ OE)]
 . rcases aV.mp h with rfl |h
   . refine Ij ((F.Iw uH<|.head _).there) λoc od nm' kV doc pm an ct osl OE=>?_
     exact(QC _ _ _ _ OE)
   . contradiction
noncomputable def cB(i:Nat):List gK:=match b0 i 999 with |true=>lX |false=>(lX[i]?.map Vo).getD []
noncomputable def fB(l:List gK)(i:Nat):List gK:=((l[i]?.bind Cv).map (·.2.1)).getD []
noncomputable def fS(l:List gK)(i:Nat):kE:=((l[i]?.bind Cv).map (·.2.2)).getD default
noncomputable def fP(l:List gK)(i:Nat):zS:=((l[i]?.bind Cv).map (·.1)).getD ⟨[],[],aq,[],[],aq,[]⟩
noncomputable abbrev pw:=PySem.Challenge.pw_pq1224_01
noncomputable def dg(P:cz)(x:bI)(t:Tok)(v:aG):zV:=⟨LS P x,.str x t,v⟩
noncomputable def lf0:Life:=⟨[],[],[],0,[],[],ao, #[],[],0,ao,ao,ao,0,[2000,10,10],ao,0,ah,[],[],0,ao⟩
noncomputable def jd:fy:=⟨(.type "tuple"),aq,(.seq #[] 0), #[]⟩
noncomputable def AP:fy:=⟨.none,aq,(.fields #[]), #[]⟩
noncomputable def xo(s0:bI)(x1:Nat)(x2:Nat)(x3:Nat):fy:=⟨(.type "code"),aq,(.fields #[(.str s0 x1),(.str s0<|x1+1),(.str "/claim/cut.py"<|x1+2),(.int ((x2:Nat):Int) 0),(.int 0 0),(.int 0 0),(.int 0 0),(.int 0 0),(.ref x3),(.bool ao),(.int 181 0),(.ref<|x3+1),.none,.none,.none,.none,(.int (((x1+3):Nat):Int) 0),(.int ((x2:Nat):Int) 0),(.str "/claim/cut.py"<|x1+4)]), #[]⟩
noncomputable def xp(x0:Nat)(x1:Nat)(s2:bI)(x3:Nat):fy:=⟨(.type "frame"),aq,.plain, #[(ae<|.ref x0),(ae<|.ref 3),(ae<|.ref x1),aq,(ae<|.str s2 x3),aq,(ae<|.ref 0)]⟩
noncomputable def IA(s0:bI)(s1:bI)(x2:Nat)(x3:Nat):fy:=⟨.none,aq,(.func {name:=s0,qualname:=s1,params:=fP (cB x2) x3,body:=.stmts<|fB (cB x2) x3,scope:=fS (cB x2) x3,globals:=0,closure:=[],defaults:=.none,kwdefaults:=.none,doc:=.none,pyModule:=.none,annotations:=aq,code:=.none,closureTuple:=.none,builtins:=0}), #[]⟩
noncomputable def O3(s0:bI)(x1:Nat)(s2:bI)(x3:Nat)(x4:Nat)(x5:Nat)(x6:Nat):fy:=⟨(.type "code"),aq,(.fields #[(.str s0 x1),(.str s2<|x1+1),(.str "/claim/cut.py"<|x1+2),(.int ((x3:Nat):Int) 0),(.int ((x4:Nat):Int) 0),(.int 0 0),(.int 0 0),(.int 3 0),(.ref x5),(.bool ah),(.int 181 0),(.ref<|x5+1),.none,(.ref<|x5+2),(.ref<|x5+3),(.ref<|x5+4),(.int ((x6:Nat):Int) 0),(.int ((x3:Nat):Int) 0),(.str "/claim/cut.py"<|x6+1)]), #[]⟩
noncomputable def Vr(s0:bI)(s1:bI)(x2:Nat)(x3:Nat)(s4:bI)(x5:Nat)(x6:Nat):fy:=⟨(.type "function"),aq,(.func {name:=s0,qualname:=s1,params:=fP (cB x2) x3,body:=.stmts<|fB (cB x2) x3,scope:=fS (cB x2) x3,globals:=3,closure:=[],defaults:=.none,kwdefaults:=.none,doc:=.none,pyModule:=(.str s4 x5),annotations:=aq,code:=(.ref x6),closureTuple:=.none,builtins:=0}), #[]⟩
noncomputable def yb:fy:=⟨(.type "builtin_function_or_method"),aq,(.fields #[(.builtin "type.__prepare__"),(.type "type")]), #[]⟩
noncomputable def oq9(P:cz)(x0:Nat)(s1:bI)(x2:Nat)(x3:Nat)(x4:Nat)(x5:Nat):fy:=⟨(.type "dict"),aq,(.dict #[dg P "__module__" x0<|.str "threepress.errors" 194,dg P "__qualname__" (x0+2)<|.str s1<|x0+1,dg P "__firstlineno__" (x0+4)<|.int ((x2:Nat):Int)<|x0+3,dg P "__init__" x3<|.ref x4,dg P "__static_attributes__" x5<|.ref<|x4+1] 5), #[]⟩
noncomputable def QQ(x0:Nat)(x1:Nat):fy:=⟨.none,aq,(.fields #[(.int ((x0:Nat):Int) 0),(.int 4 0),(.ref x1)]), #[]⟩
noncomputable def Ge(s0:bI)(x1:Nat)(x2:Nat)(s3:bI)(x4:Nat):fy:=⟨(.type "function"),aq,(.func {name:="__init__",qualname:=s0,params:=fP (cB x1) 0,body:=.stmts<|fB (cB x1) 0,scope:=fS (cB x1) 0,globals:=3,closure:=[],defaults:=(.ref x2),kwdefaults:=.none,doc:=.none,pyModule:=(.str s3 x4),annotations:=aq,code:=(.ref<|x2+6),closureTuple:=.none,builtins:=0}), #[]⟩
noncomputable def vR(x0:Nat)(x1:Nat):fy:=⟨(.type "getset_descriptor"),aq,(.fields #[(.str "__weakref__" x0),(.ref x1),(.builtin "ExceptionGroup.__weakref__"),.none]), #[]⟩
noncomputable def mu(x0:Nat):fy:=⟨(.type "super"),aq,(.fields #[(.ref x0),(.ref x0),(.ref x0)]), #[]⟩
noncomputable def mw(x0:Nat):fy:=⟨(.type "builtin_function_or_method"),aq,(.fields #[(.builtin "object.__init_subclass__"),(.ref x0)]), #[]⟩
noncomputable def xq(x0:Nat):fy:=⟨(.type "tuple"),aq,(.seq #[(.ref x0)] 0), #[]⟩
noncomputable def IB(P:cz)(x0:Nat)(s1:bI)(x2:Nat)(x3:Nat):fy:=⟨(.type "dict"),aq,(.dict #[dg P "__module__" x0<|.str "threepress.errors" 194,dg P "__qualname__" (x0+2)<|.str s1<|x0+1,dg P "__firstlineno__" (x0+4)<|.int ((x2:Nat):Int)<|x0+3,dg P "__static_attributes__" (x0+5)<|.ref x3] 4), #[]⟩
noncomputable def IC(P:cz)(x0:Nat)(x1:Nat)(x2:Nat):fy:=⟨(.type "dict"),aq,(.dict #[dg P "__module__" x0<|.str "threepress.errors" 194,dg P "__firstlineno__" (x0+4)<|.int ((x1:Nat):Int)<|x0+3,dg P "__static_attributes__" (x0+5)<|.ref x2,dg P "__doc__" (x0+6) .none] 2), #[]⟩
noncomputable def CC(s0:bI)(x1:Nat)(x2:Nat)(x3:Nat):fy:=⟨(.type "type"),aq,(.cls {name:=s0,bases:=[(.ref 39)],mro:=[(.ref x1),(.ref 39),(.type "ValueError"),(.type "Exception"),(.type "BaseException"),(.type "object")],ns:=(x1-1),qualname:=s0,hasDict:=ah,slotNames:=[],subclasses:=[],abstract:=ao,collection:=aq,hasDel:=ao}), #[(ae<|.ref x2),aq,(ae<|.str s0 x3),(ae<|.str s0<|x3+8),(ae<|.builtin "ValueError.__new__"),(ae<|.bool ah)]⟩
noncomputable def yZ(s0:bI)(x1:Nat)(x2:Nat):fy:=⟨(.type "type"),aq,(.cls {name:=s0,bases:=[(.type "object")],mro:=[(.ref x1),(.type "object")],ns:=(x1-1),qualname:=s0,hasDict:=ah,slotNames:=[],subclasses:=[],abstract:=ao,collection:=aq,hasDel:=ao}), #[aq,aq,(ae<|.str s0 x2),(ae<|.str s0<|x2+8),(ae<|.builtin "object.__new__"),(ae<|.bool ah)]⟩
noncomputable def xr(x0:Nat)(x1:Nat):fy:=⟨(.type "getset_descriptor"),aq,(.fields #[(.str "__dict__" x0),(.ref x1),(.builtin "function.__dict__"),(.builtin "function.__dict__#set")]), #[]⟩
noncomputable def Mm(P:cz)(x0:Nat)(s1:bI)(x2:Nat)(s3:bI)(x4:Nat)(x5:Nat)(x6:Nat)(s7:bI)(x8:Nat)(s9:bI)(x10:Nat)(x11:Nat)(s12:bI)(x13:Nat)(s14:bI)(x15:Nat)(s16:bI)(x17:Nat)(s18:bI)(x19:Nat)(s20:bI)(x21:Nat)(s22:bI)(x23:Nat)(s24:bI)(x25:Nat)(x26:Nat):fy:=⟨(.type "dict"),aq,(.dict #[dg P "__module__" x0<|.str s1 x2,dg P "__qualname__" (x0+2)<|.str s3<|x0+1,dg P "__firstlineno__" (x0+4)<|.int ((x4:Nat):Int)<|x0+3,dg P "__init__" x5<|.ref x6,dg P s7 x8<|.ref<|x6+7,dg P s9 x10<|.ref x11,dg P s12 x13<|.ref<|x11+7,dg P s14 x15<|.ref<|x11+14,dg P s16 x17<|.ref<|x11+21,dg P s18 x19<|.ref<|x11+28,dg P s20 x21<|.ref<|x11+35,dg P s22 x23<|.ref<|x11+42,dg P s24 x25<|.ref<|x11+49,dg P "__static_attributes__" x26<|.ref<|x11+50] 14), #[]⟩
noncomputable def Mn(x0:Nat)(x1:Nat)(x2:Nat)(x3:Nat)(x4:Nat)(x5:Nat)(x6:Nat)(x7:Nat)(x8:Nat)(x9:Nat)(x10:Nat)(x11:Nat):fy:=⟨.none,aq,(.fields #[(.int ((x0:Nat):Int) 0),(.int 4 0),(.ref x1),(.int ((x2:Nat):Int) 0),(.int 4 0),(.ref<|x1+7),(.int ((x3:Nat):Int) 0),(.int 4 0),(.ref<|x1+14),(.int ((x4:Nat):Int) 0),(.int 4 0),(.ref x5),(.int ((x6:Nat):Int) 0),(.int 4 0),(.ref<|x5+7),(.int ((x7:Nat):Int) 0),(.int 4 0),(.ref<|x5+14),(.int ((x8:Nat):Int) 0),(.int 4 0),(.ref<|x5+21),(.int ((x9:Nat):Int) 0),(.int 4 0),(.ref<|x5+28),(.int ((x10:Nat):Int) 0),(.int 4 0),(.ref<|x5+35),(.int ((x11:Nat):Int) 0),(.int 4 0),(.ref<|x5+42)]), #[]⟩
noncomputable def Mo(P:cz)(x0:Nat)(s1:bI)(x2:Nat)(x3:Nat)(x4:Nat)(x5:Nat)(s6:bI)(x7:Nat)(s8:bI)(x9:Nat)(x10:Nat)(s11:bI)(x12:Nat)(s13:bI)(x14:Nat)(s15:bI)(x16:Nat)(s17:bI)(x18:Nat)(s19:bI)(x20:Nat)(s21:bI)(x22:Nat)(s23:bI)(x24:Nat)(x25:Nat):fy:=⟨(.type "dict"),aq,(.dict #[dg P "__module__" x0<|.str s1 x2,dg P "__firstlineno__" (x0+4)<|.int ((x3:Nat):Int)<|x0+3,dg P "__init__" x4<|.ref x5,dg P s6 x7<|.ref<|x5+7,dg P s8 x9<|.ref x10,dg P s11 x12<|.ref<|x10+7,dg P s13 x14<|.ref<|x10+14,dg P s15 x16<|.ref<|x10+21,dg P s17 x18<|.ref<|x10+28,dg P s19 x20<|.ref<|x10+35,dg P s21 x22<|.ref<|x10+42,dg P s23 x24<|.ref<|x10+49,dg P "__static_attributes__" x25<|.ref<|x10+50,dg P "__dict__" (x25+2)<|.ref<|x10+53,dg P "__weakref__" (x25+4)<|.ref<|x10+54,dg P "__doc__" (x25+5) .none] 4), #[]⟩
noncomputable def QR(s0:bI)(x1:Nat)(x2:Nat)(x3:Nat)(x4:Nat):fy:=⟨(.type "code"),aq,(.fields #[(.str s0 x1),(.str s0<|x1+1),(.str "/claim/cut.py"<|x1+2),(.int ((x2:Nat):Int) 0),(.int ((x3:Nat):Int) 0),(.int 0 0),(.int 0 0),(.int 3 0),(.ref x4),(.bool ah),(.int 181 0),(.ref<|x4+1),.none,.none,.none,(.ref<|x4+2),(.int (((x1+3):Nat):Int) 0),(.int ((x2:Nat):Int) 0),(.str "/claim/cut.py"<|x1+4)]), #[]⟩
noncomputable def hxt:List bI->Nat->List aG
 |[],_=>[]
 |s::l,t=>.str s t::hxt l (t+1)
noncomputable def uZ(l:List bI)(t:Nat):fy:=⟨(.type "tuple"),aq,(.seq (hxt l t).toArray 0), #[]⟩
def O4(ms:bI)(mt:Nat)(V:List bI)(k:Nat)(s q:bI)(c i ln na a t:Nat):List fy:=[jd,AP,uZ V<|t+3,jd,IA s q c i,O3 s t q ln na a<|t+3+k,Vr s q c i ms mt<|a+5]
def qbk:=O4 "__main__" 164
def Vt:=O4 "threepress.errors" 194
def iW:=O4 "threepress.lzmastate" 362
def iX:=O4 "threepress.lzmadecode" 769
def iD:=O4 "threepress.lzmaencode" 1114
def xt:=O4 "threepress.matches" 1466
def lF:=O4 "threepress.rangecoder" 1575
def CD:=O4 "law_pq1224_01" 1869
noncomputable def bT(P:cz)(x:bI)(t n:Nat):zV:=dg P x t<|.ref n
noncomputable def hxe(P:cz):List zV:=[dg P "__doc__" 166 .none,dg P "__package__" 167 .none,dg P "__loader__" 168<|.builtin "__main__.__loader__#opaque",dg P "__spec__" 169 .none,bT P "__annotations__" 170 6,bT P "__builtins__" 171 4,dg P "__file__" 173<|.str "/claim/cut.py" 172,dg P "__cached__" 174 .none,bT P "_wall" 193 21,bT P "PressError" 223 39,bT P "CutShort" 239 52,bT P "BadCode" 255 64,bT P "BadDistance" 271 76,bT P "BadHeader" 287 88,bT P "BadArgument" 303 100,bT P "BadSize" 332 119,bT P "TooLarge" 361 138,dg P "STATES" 365<|.int 12 364,dg P "LITERAL_STATES" 367<|.int 7 366,dg P "MOST_POSITIONS" 369<|.int 16 368,dg P "START" 371<|.int 1024 370,dg P "LEAST_MATCH" 373<|.int 2 372,dg P "MOST_MATCH" 375<|.int 273 374,dg P "LENGTH_STATES" 377<|.int 4 376,dg P "LITERAL_ROW" 379<|.int 768 378,dg P "FIRST_DIRECT" 381<|.int 14 380,dg P "ALIGN_BITS" 383<|.int 4 382,dg P "END_DISTANCE" 387<|.int 4294967296 386,dg P "SHORT_ROW" 389<|.int 64 388,bT P "Cells" 443 178,bT P "fresh" 450 189,bT P "Props" 510 228,bT P "after_literal" 517 239,bT P "after_match" 524 246,bT P "after_rep" 531 253,bT P "after_short" 538 260,bT P "is_after_literal" 545 267,bT P "length_state" 552 274,bT P "slot_base" 560 281,bT P "slot_of" 572 288,bT P "LengthModels" 612 312,bT P "Models" 697 368,bT P "Reps" 768 426,dg P "LOW_LENGTHS" 772<|.int 8 771,dg P "LOW_BITS" 774<|.int 3 773,dg P "HIGH_BITS" 776<|.int 8 775,dg P "SLOT_BITS" 778<|.int 6 777,dg P "FIRST_EXTRA" 780<|.int 4 779,dg P "KIND" 782<|.str "lzma" 781,bT P "read_length" 791 437,bT P "read_distance" 804 444,bT P "read_literal" 814 451,bT P "read_matched" 828 458,bT P "length_of" 835 465,bT P "PacketReader" 1012 595,bT P "LzmaReader" 1113 673,bT P "KINDS" 1120 676,bT P "need_whole" 1128 683,bT P "need_number" 1138 690,bT P "step_length" 1145 697,bT P "repeats" 1156 704,bT P "octet_behind" 1165 711,bT P "StepCoder" 1302 791,bT P "LzmaWriter" 1465 917,bT P "Window" 1574 1000,dg P "MODEL_BITS" 1578<|.int 11 1577,dg P "TOTAL" 1581<|.int 2048 1580,dg P "LEARN" 1583<|.int 5 1582,dg P "LEAST_SPAN" 1587<|.int 16777216 1586,dg P "MOST_SPAN" 1593<|.int 4294967295 1592,dg P "CARRY" 1597<|.int 4294967296 1596,dg P "MAY_CARRY" 1601<|.int 4278190080 1600,dg P "FLUSHED" 1603<|.int 5 1602,bT P "next_model" 1611 1011,bT P "need_bit" 1618 1018,bT P "need_value" 1626 1025,bT P "RangeReader" 1748 1106,bT P "RangeWriter" 1868 1190,bT P "_law_rows" 1876 1201,bT P "_law_take" 1885 1208,bT P "_law_text" 1898 1215,bT P "_law_models" 1905 1222,bT P "_law_data" 1911 1227,bT P "_law_word" 1918 1234,bT P "_law_stand" 1926 1241,bT P "_law_closed_right" 1932 1246,bT P "_law_told" 1945 1253,bT P "_law_kept" 1956 1260,bT P "law" 1962 1265]
noncomputable def ZY(P:cz)(s:bI)(t k:Nat):fy:=⟨(.type "dict"),aq,(.dict (dg P "__name__" 165 (.str s t)::(hxe P).take k).toArray<|k+1), #[]⟩
noncomputable def hxf:List (Nat×Nat)->List aG
 |[]=>[]
 |(a,b)::l=>.int (a:Nat) 0:: .int 0 0:: .ref b::hxf l
noncomputable def hxl:List aG:=hxf [(1,20),(5,27),(10,48),(12,60),(14,72),(16,84),(18,96),(20,108),(27,127),(47,146),(65,188),(67,195),(85,238),(89,245),(91,252),(93,259),(95,266),(97,273),(99,280),(104,287),(112,294),(127,322),(172,378),(200,436),(206,443),(215,450),(220,457),(232,464),(236,471),(358,605),(430,682),(433,689),(437,696),(449,703),(456,710),(460,717),(548,801),(650,925),(714,1010),(718,1017),(721,1024),(724,1031),(801,1116),(878,1200),(880,1207),(884,1214),(896,1221),(898,1226),(905,1233),(912,1240),(914,1245),(928,1252),(940,1259),(947,1264)]
noncomputable def Vu(k:Nat):fy:=⟨.none,aq,(.fields (hxl.take k).toArray), #[]⟩
def u0(P:cz):List fy:=[[boot_o_0 P,boot_o_1 P,boot_o_2 P,ZY P "law_pq1224_01" 1869 89,boot_o_4 P,boot_o_5 P,boot_o_6 P,boot_o_7 P,boot_o_8 P,boot_o_9 P,boot_o_10 P,jd,Vu 162,xo "<module>" 182 1 11,xp 13 3 "__main__" 164],qbk ["k"] 1 "_wall" "_wall" 999 0 1 1 15 187,[⟨(.type "tuple"),aq,(.seq #[(.type "ValueError")] 0), #[]⟩,yb,oq9 P 203 "PressError" 5 216 36 218,jd,QQ 7 35,xo "PressError" 198 5 25,xp 27 24 "threepress.errors" 194,uZ [""] 208,jd,AP,uZ ["self","reason"] 212,jd,IA "__init__" "PressError.__init__" 2 0,O3 "__init__" 209 "PressError.__init__" 7 2 30 214,Ge "PressError.__init__" 2 29 "threepress.errors" 194,uZ ["reason"] 217,⟨(.type "dict"),aq,(.dict #[dg P "__module__" 203<|.str "threepress.errors" 194,dg P "__firstlineno__" 207<|.int 5 206,bT P "__init__" 216 36,bT P "__static_attributes__" 218 37,bT P "__weakref__" 220 40,dg P "__doc__" 221 .none] 3), #[]⟩,⟨(.type "type"),aq,(.cls {name:="PressError",bases:=[(.type "ValueError")],mro:=[(.ref 39),(.type "ValueError"),(.type "Exception"),(.type "BaseException"),(.type "object")],ns:=38,qualname:="PressError",hasDict:=ah,slotNames:=[],subclasses:=[(.ref 52),(.ref 64),(.ref 76),(.ref 88),(.ref 100),(.ref 119),(.ref 138)],abstract:=ao,collection:=aq,hasDel:=ao}), #[(ae<|.ref 22),aq,(ae<|.str "PressError" 196),(ae<|.str "PressError" 204),(ae<|.builtin "ValueError.__new__"),(ae<|.bool ah)]⟩,vR 219 39,mu 39,mw 39,xq 39,yb,IB P 231 "CutShort" 10 50,jd,AP,xo "CutShort" 226 10 46,xp 48 45 "threepress.errors" 194,jd,IC P 231 10 50,CC "CutShort" 52 43 224,mu 52,mw 52,xq 39,yb,IB P 247 "BadCode" 12 62,jd,AP,xo "BadCode" 242 12 58,xp 60 57 "threepress.errors" 194,jd,IC P 247 12 62,CC "BadCode" 64 55 240,mu 64,mw 64,xq 39,yb,IB P 263 "BadDistance" 14 74,jd,AP,xo "BadDistance" 258 14 70,xp 72 69 "threepress.errors" 194,jd,IC P 263 14 74,CC "BadDistance" 76 67 256,mu 76,mw 76,xq 39,yb,IB P 279 "BadHeader" 16 86,jd,AP,xo "BadHeader" 274 16 82,xp 84 81 "threepress.errors" 194,jd,IC P 279 16 86,CC "BadHeader" 88 79 272,mu 88,mw 88,xq 39,yb,IB P 295 "BadArgument" 18 98,jd,AP,xo "BadArgument" 290 18 94,xp 96 93 "threepress.errors" 194,jd,IC P 295 18 98,CC "BadArgument" 100 91 288,mu 100,mw 100,xq 39,yb,oq9 P 311 "BadSize" 20 325 116 329,jd,QQ 22 115,xo "BadSize" 306 20 106,xp 108 105 "threepress.errors" 194],Vt ["self","kind","told","found"] 4 "__init__" "BadSize.__init__" 8 0 22 4 110 316,[uZ ["found","kind","told"] 326,⟨(.type "dict"),aq,(.dict #[dg P "__module__" 311<|.str "threepress.errors" 194,dg P "__firstlineno__" 315<|.int 20 314,bT P "__init__" 325 116,bT P "__static_attributes__" 329 117,dg P "__doc__" 330 .none] 2), #[]⟩,CC "BadSize" 119 103 304,mu 119,mw 119,xq 39,yb,oq9 P 340 "TooLarge" 27 354 135 358,jd,QQ 29 134,xo "TooLarge" 335 27 125,xp 127 124 "threepress.errors" 194],Vt ["self","kind","size","most"] 4 "__init__" "TooLarge.__init__" 9 0 29 4 129 345,[uZ ["kind","most","size"] 355,⟨(.type "dict"),aq,(.dict #[dg P "__module__" 340<|.str "threepress.errors" 194,dg P "__firstlineno__" 344<|.int 27 343,bT P "__init__" 354 135,bT P "__static_attributes__" 358 136,dg P "__doc__" 359 .none] 2), #[]⟩,CC "TooLarge" 138 122 333,mu 138,mw 138,jd,yb,⟨(.type "dict"),aq,(.dict #[dg P "__module__" 397<|.str "threepress.lzmastate" 362,dg P "__qualname__" 399<|.str "Cells" 398,dg P "__firstlineno__" 401<|.int 47 400,bT P "__init__" 409 154,bT P "__len__" 416 161,bT P "__getitem__" 424 168,bT P "__setitem__" 433 175,bT P "__static_attributes__" 436 176] 8), #[]⟩,jd,⟨.none,aq,(.fields #[(.int 49 0),(.int 4 0),(.ref 153),(.int 53 0),(.int 4 0),(.ref 160),(.int 56 0),(.int 4 0),(.ref 167),(.int 61 0),(.int 4 0),(.ref 174)]), #[]⟩,xo "Cells" 392 47 144,xp 146 143 "threepress.lzmastate" 362],iW ["self","count"] 2 "__init__" "Cells.__init__" 23 0 49 2 148 402,iW ["self"] 1 "__len__" "Cells.__len__" 23 1 53 1 155 410,iW ["self","index"] 2 "__getitem__" "Cells.__getitem__" 23 2 56 2 162 417,iW ["self","index","model"] 3 "__setitem__" "Cells.__setitem__" 23 3 61 3 169 425,[uZ ["count","learnt"] 434,⟨(.type "dict"),aq,(.dict #[dg P "__module__" 397<|.str "threepress.lzmastate" 362,dg P "__firstlineno__" 401<|.int 47 400,bT P "__init__" 409 154,bT P "__len__" 416 161,bT P "__getitem__" 424 168,bT P "__setitem__" 433 175,bT P "__static_attributes__" 436 176,bT P "__dict__" 438 179,bT P "__weakref__" 440 180,dg P "__doc__" 441 .none] 4), #[]⟩,yZ "Cells" 178 390,xr 437 178,vR 439 178,mu 178,mw 178],iW ["count"] 1 "fresh" "fresh" 999 24 65 1 183 444,[jd,yb,⟨(.type "dict"),aq,(.dict #[dg P "__module__" 458<|.str "threepress.lzmastate" 362,dg P "__qualname__" 460<|.str "Props" 459,dg P "__firstlineno__" 462<|.int 67 461,bT P "__init__" 477 204,bT P "octet" 484 211,bT P "literals" 491 218,bT P "position" 499 225,bT P "__static_attributes__" 503 226] 8), #[]⟩,jd,⟨.none,aq,(.fields #[(.int 69 0),(.int 4 0),(.ref 203),(.int 77 0),(.int 4 0),(.ref 210),(.int 80 0),(.int 4 0),(.ref 217),(.int 83 0),(.int 4 0),(.ref 224)]), #[]⟩,xo "Props" 453 67 193,xp 195 192 "threepress.lzmastate" 362,⟨(.type "tuple"),aq,(.seq #[(.int 3 463),(.int 0 464),(.int 2 465)] 0), #[]⟩,jd,AP,uZ ["self","lc","lp","pb","number","most"] 469,jd,IA "__init__" "Props.__init__" 25 0,O3 "__init__" 466 "Props.__init__" 69 4 198 475,Ge "Props.__init__" 25 197 "threepress.lzmastate" 362],iW ["self"] 1 "octet" "Props.octet" 25 1 77 1 205 478,iW ["self"] 1 "literals" "Props.literals" 25 2 80 1 212 485].flatten
def u1(P:cz):List fy:=[iW ["self","place"] 2 "position" "Props.position" 25 3 83 2 219 492,[uZ ["lc","lp","pb"] 500,⟨(.type "dict"),aq,(.dict #[dg P "__module__" 458<|.str "threepress.lzmastate" 362,dg P "__firstlineno__" 462<|.int 67 461,bT P "__init__" 477 204,bT P "octet" 484 211,bT P "literals" 491 218,bT P "position" 499 225,bT P "__static_attributes__" 503 226,bT P "__dict__" 505 229,bT P "__weakref__" 507 230,dg P "__doc__" 508 .none] 4), #[]⟩,yZ "Props" 228 451,xr 504 228,vR 506 228,mu 228,mw 228],iW ["state"] 1 "after_literal" "after_literal" 999 26 85 1 233 511,iW ["state"] 1 "after_match" "after_match" 999 27 89 1 240 518,iW ["state"] 1 "after_rep" "after_rep" 999 28 91 1 247 525,iW ["state"] 1 "after_short" "after_short" 999 29 93 1 254 532,iW ["state"] 1 "is_after_literal" "is_after_literal" 999 30 95 1 261 539,iW ["length"] 1 "length_state" "length_state" 999 31 97 1 268 546,iW ["slot","extra"] 2 "slot_base" "slot_base" 999 32 99 1 275 553,iW ["distance","number","high","slot","extra","base"] 6 "slot_of" "slot_of" 999 33 104 1 282 561,[jd,yb,⟨(.type "dict"),aq,(.dict #[dg P "__module__" 580<|.str "threepress.lzmastate" 362,dg P "__qualname__" 582<|.str "LengthModels" 581,dg P "__firstlineno__" 584<|.int 112 583,bT P "__init__" 592 302,bT P "reset" 599 309,bT P "__static_attributes__" 605 310] 6), #[]⟩,jd,⟨.none,aq,(.fields #[(.int 114 0),(.int 4 0),(.ref 301),(.int 122 0),(.int 4 0),(.ref 308)]), #[]⟩,xo "LengthModels" 575 112 292,xp 294 291 "threepress.lzmastate" 362],iW ["self","positions"] 2 "__init__" "LengthModels.__init__" 34 0 114 2 296 585,iW ["self"] 1 "reset" "LengthModels.reset" 34 1 122 1 303 593,[uZ ["choice","high","low","mid","positions"] 600,⟨(.type "dict"),aq,(.dict #[dg P "__module__" 580<|.str "threepress.lzmastate" 362,dg P "__firstlineno__" 584<|.int 112 583,bT P "__init__" 592 302,bT P "reset" 599 309,bT P "__static_attributes__" 605 310,bT P "__dict__" 607 313,bT P "__weakref__" 609 314,dg P "__doc__" 610 .none] 4), #[]⟩,yZ "LengthModels" 312 573,xr 606 312,vR 608 312,mu 312,mw 312,jd,yb,⟨(.type "dict"),aq,(.dict #[dg P "__module__" 620<|.str "threepress.lzmastate" 362,dg P "__qualname__" 622<|.str "Models" 621,dg P "__firstlineno__" 624<|.int 127 623,bT P "__init__" 632 330,bT P "reset" 639 337,bT P "cell" 648 344,bT P "slot_start" 656 351,bT P "special_start" 666 358,bT P "literal_start" 676 365,bT P "__static_attributes__" 690 366] 10), #[]⟩,jd,⟨.none,aq,(.fields #[(.int 129 0),(.int 4 0),(.ref 329),(.int 145 0),(.int 4 0),(.ref 336),(.int 159 0),(.int 4 0),(.ref 343),(.int 162 0),(.int 4 0),(.ref 350),(.int 165 0),(.int 4 0),(.ref 357),(.int 169 0),(.int 4 0),(.ref 364)]), #[]⟩,xo "Models" 615 127 320,xp 322 319 "threepress.lzmastate" 362],iW ["self","props"] 2 "__init__" "Models.__init__" 35 0 129 2 324 625,iW ["self"] 1 "reset" "Models.reset" 35 1 145 1 331 633].flatten
def u2(P:cz):List fy:=[iW ["self","state","place"] 3 "cell" "Models.cell" 35 2 159 3 338 640,iW ["self","length"] 2 "slot_start" "Models.slot_start" 35 3 162 2 345 649,iW ["self","slot","extra","base"] 4 "special_start" "Models.special_start" 35 4 165 2 352 657,iW ["self","place","before","high"] 4 "literal_start" "Models.literal_start" 35 5 169 3 359 667,[uZ ["align","is_match","is_rep","is_rep0","is_rep0_long","is_rep1","is_rep2","lengths","literals","props","rep_lengths","slots","special"] 677,⟨(.type "dict"),aq,(.dict #[dg P "__module__" 620<|.str "threepress.lzmastate" 362,dg P "__firstlineno__" 624<|.int 127 623,bT P "__init__" 632 330,bT P "reset" 639 337,bT P "cell" 648 344,bT P "slot_start" 656 351,bT P "special_start" 666 358,bT P "literal_start" 676 365,bT P "__static_attributes__" 690 366,bT P "__dict__" 692 369,bT P "__weakref__" 694 370,dg P "__doc__" 695 .none] 4), #[]⟩,yZ "Models" 368 613,xr 691 368,vR 693 368,mu 368,mw 368,jd,yb,⟨(.type "dict"),aq,(.dict #[dg P "__module__" 705<|.str "threepress.lzmastate" 362,dg P "__qualname__" 707<|.str "Reps" 706,dg P "__firstlineno__" 709<|.int 172 708,bT P "__init__" 721 388,bT P "reset" 728 395,bT P "first" 735 402,bT P "use" 744 409,bT P "put" 752 416,bT P "copy" 759 423,bT P "__static_attributes__" 761 424] 10), #[]⟩,jd,⟨.none,aq,(.fields #[(.int 174 0),(.int 4 0),(.ref 387),(.int 177 0),(.int 4 0),(.ref 394),(.int 180 0),(.int 4 0),(.ref 401),(.int 183 0),(.int 4 0),(.ref 408),(.int 188 0),(.int 4 0),(.ref 415),(.int 191 0),(.int 4 0),(.ref 422)]), #[]⟩,xo "Reps" 700 172 376,xp 378 375 "threepress.lzmastate" 362,⟨(.type "tuple"),aq,(.seq #[(.int 1 710),(.int 1 711),(.int 1 712),(.int 1 713)] 0), #[]⟩,xq 380,jd,AP,uZ ["self","row"] 717,jd,IA "__init__" "Reps.__init__" 36 0,O3 "__init__" 714 "Reps.__init__" 174 2 382 719,Ge "Reps.__init__" 36 381 "threepress.lzmastate" 362],iW ["self"] 1 "reset" "Reps.reset" 36 1 177 1 389 722,iW ["self"] 1 "first" "Reps.first" 36 2 180 1 396 729,iW ["self","index","distance"] 3 "use" "Reps.use" 36 3 183 2 403 736,iW ["self","distance"] 2 "put" "Reps.put" 36 4 188 2 410 745,iW ["self"] 1 "copy" "Reps.copy" 36 5 191 1 417 753,[uZ ["row"] 760,⟨(.type "dict"),aq,(.dict #[dg P "__module__" 705<|.str "threepress.lzmastate" 362,dg P "__firstlineno__" 709<|.int 172 708,bT P "__init__" 721 388,bT P "reset" 728 395,bT P "first" 735 402,bT P "use" 744 409,bT P "put" 752 416,bT P "copy" 759 423,bT P "__static_attributes__" 761 424,bT P "__dict__" 763 427,bT P "__weakref__" 765 428,dg P "__doc__" 766 .none] 4), #[]⟩,yZ "Reps" 426 698,xr 762 426,vR 764 426,mu 426,mw 426],iX ["reader","models","pos"] 3 "read_length" "read_length" 999 44 200 3 431 783,iX ["reader","models","length","slot","extra","base","high"] 7 "read_distance" "read_distance" 999 45 206 3 438 792,iX ["reader","literals","start","found"] 4 "read_literal" "read_literal" 999 46 215 3 445 805,iX ["reader","literals","start","beside","found","rest","due","bit"] 8 "read_matched" "read_matched" 999 47 220 4 452 815,iX ["step"] 1 "length_of" "length_of" 999 48 232 1 459 829].flatten
def u3(P:cz):List fy:=[[jd,yb,⟨(.type "dict"),aq,(.dict #[dg P "__module__" 843<|.str "threepress.lzmadecode" 769,dg P "__qualname__" 845<|.str "PacketReader" 844,dg P "__firstlineno__" 847<|.int 236 846,bT P "__init__" 857 480,bT P "reset_state" 864 487,bT P "forget" 871 494,bT P "passed" 880 501,bT P "must_be_whole" 887 508,bT P "must_go_on" 894 515,bT P "must_reach" 902 522,bT P "must_fit" 910 529,bT P "literal_step" 921 536,bT P "match_step" 931 543,bT P "rep_index" 939 550,bT P "rep_step" 949 557,bT P "next_step" 957 564,bT P "play" 966 571,bT P "run" 978 578,bT P "must_have_end" 987 585,bT P "is_end" 997 592,bT P "__static_attributes__" 1005 593] 21), #[]⟩,jd,⟨.none,aq,(.fields #[(.int 238 0),(.int 4 0),(.ref 479),(.int 247 0),(.int 4 0),(.ref 486),(.int 253 0),(.int 4 0),(.ref 493),(.int 256 0),(.int 4 0),(.ref 500),(.int 263 0),(.int 4 0),(.ref 507),(.int 266 0),(.int 4 0),(.ref 514),(.int 270 0),(.int 4 0),(.ref 521),(.int 274 0),(.int 4 0),(.ref 528),(.int 278 0),(.int 4 0),(.ref 535),(.int 289 0),(.int 4 0),(.ref 542),(.int 299 0),(.int 4 0),(.ref 549),(.int 304 0),(.int 4 0),(.ref 556),(.int 317 0),(.int 4 0),(.ref 563),(.int 324 0),(.int 4 0),(.ref 570),(.int 335 0),(.int 4 0),(.ref 577),(.int 347 0),(.int 4 0),(.ref 584),(.int 351 0),(.int 4 0),(.ref 591)]), #[]⟩,xo "PacketReader" 838 236 469,xp 471 468 "threepress.lzmadecode" 769,⟨(.type "tuple"),aq,(.seq #[.none] 0), #[]⟩,jd,AP,uZ ["self","models","window","most"] 851,jd,IA "__init__" "PacketReader.__init__" 49 0,O3 "__init__" 848 "PacketReader.__init__" 238 4 474 855,Ge "PacketReader.__init__" 49 473 "threepress.lzmadecode" 769],iX ["self"] 1 "reset_state" "PacketReader.reset_state" 49 1 247 1 481 858,iX ["self"] 1 "forget" "PacketReader.forget" 49 2 253 1 488 865,iX ["self","octets","octet"] 3 "passed" "PacketReader.passed" 49 3 256 2 495 872,iX ["self"] 1 "must_be_whole" "PacketReader.must_be_whole" 49 4 263 1 502 881,iX ["self"] 1 "must_go_on" "PacketReader.must_go_on" 49 5 266 1 509 888,iX ["self","distance"] 2 "must_reach" "PacketReader.must_reach" 49 6 270 2 516 895,iX ["self","length"] 2 "must_fit" "PacketReader.must_fit" 49 7 274 2 523 903,iX ["self","reader","before","start","octet"] 5 "literal_step" "PacketReader.literal_step" 49 8 278 2 530 911,iX ["self","reader","length","distance"] 4 "match_step" "PacketReader.match_step" 49 9 289 2 537 922,iX ["self","reader"] 2 "rep_index" "PacketReader.rep_index" 49 10 299 2 544 932,iX ["self","reader","index","length"] 4 "rep_step" "PacketReader.rep_step" 49 11 304 2 551 940,iX ["self","reader"] 2 "next_step" "PacketReader.next_step" 49 12 317 2 558 950,iX ["self","step","length"] 3 "play" "PacketReader.play" 49 13 324 2 565 958,iX ["self","reader","size","end_let","made","step"] 6 "run" "PacketReader.run" 49 14 335 4 572 967,iX ["self","size","end_let"] 3 "must_have_end" "PacketReader.must_have_end" 49 15 347 3 579 979].flatten
def u4(P:cz):List fy:=[iX ["self","step","size","made"] 4 "is_end" "PacketReader.is_end" 49 16 351 4 586 988,[uZ ["marked","models","most","place","reps","state","window"] 998,⟨(.type "dict"),aq,(.dict #[dg P "__module__" 843<|.str "threepress.lzmadecode" 769,dg P "__firstlineno__" 847<|.int 236 846,bT P "__init__" 857 480,bT P "reset_state" 864 487,bT P "forget" 871 494,bT P "passed" 880 501,bT P "must_be_whole" 887 508,bT P "must_go_on" 894 515,bT P "must_reach" 902 522,bT P "must_fit" 910 529,bT P "literal_step" 921 536,bT P "match_step" 931 543,bT P "rep_index" 939 550,bT P "rep_step" 949 557,bT P "next_step" 957 564,bT P "play" 966 571,bT P "run" 978 578,bT P "must_have_end" 987 585,bT P "is_end" 997 592,bT P "__static_attributes__" 1005 593,bT P "__dict__" 1007 596,bT P "__weakref__" 1009 597,dg P "__doc__" 1010 .none] 4), #[]⟩,⟨(.type "type"),aq,(.cls {name:="PacketReader",bases:=[(.type "object")],mro:=[(.ref 595),(.type "object")],ns:=594,qualname:="PacketReader",hasDict:=ah,slotNames:=[],subclasses:=[(.ref 673)],abstract:=ao,collection:=aq,hasDel:=ao}), #[aq,aq,(ae<|.str "PacketReader" 836),(ae<|.str "PacketReader" 844),(ae<|.builtin "object.__new__"),(ae<|.bool ah)]⟩,xr 1006 595,vR 1008 595,mu 595,mw 595,xq 595,yb,⟨(.type "dict"),aq,(.dict #[dg P "__module__" 1020<|.str "threepress.lzmadecode" 769,dg P "__qualname__" 1022<|.str "LzmaReader" 1021,dg P "__firstlineno__" 1024<|.int 358 1023,bT P "__init__" 1034 614,bT P "reset_state" 1041 621,bT P "forget" 1048 628,bT P "must_be_whole" 1055 635,bT P "mark" 1064 642,bT P "piece" 1075 649,bT P "rest_of" 1084 656,bT P "finish" 1093 663,bT P "steps" 1106 670,bT P "__static_attributes__" 1110 671] 13), #[]⟩,jd,⟨.none,aq,(.fields #[(.int 360 0),(.int 4 0),(.ref 613),(.int 364 0),(.int 4 0),(.ref 620),(.int 368 0),(.int 4 0),(.ref 627),(.int 372 0),(.int 4 0),(.ref 634),(.int 376 0),(.int 4 0),(.ref 641),(.int 384 0),(.int 4 0),(.ref 648),(.int 402 0),(.int 4 0),(.ref 655),(.int 408 0),(.int 4 0),(.ref 662),(.int 416 0),(.int 4 0),(.ref 669)]), #[]⟩,xo "LzmaReader" 1015 358 603,xp 605 602 "threepress.lzmadecode" 769,⟨(.type "tuple"),aq,(.seq #[.none] 0), #[]⟩,jd,AP,uZ ["self","models","window","most"] 1028,jd,IA "__init__" "LzmaReader.__init__" 50 0,O3 "__init__" 1025 "LzmaReader.__init__" 360 4 608 1032,Ge "LzmaReader.__init__" 50 607 "threepress.lzmadecode" 769],iX ["self"] 1 "reset_state" "LzmaReader.reset_state" 50 1 364 1 615 1035,iX ["self"] 1 "forget" "LzmaReader.forget" 50 2 368 1 622 1042,iX ["self"] 1 "must_be_whole" "LzmaReader.must_be_whole" 50 3 372 1 629 1049,iX ["self","reader","step"] 3 "mark" "LzmaReader.mark" 50 4 376 2 636 1056,iX ["self","reader","most","made","step"] 5 "piece" "LzmaReader.piece" 50 5 384 3 643 1065,iX ["self","most","part"] 3 "rest_of" "LzmaReader.rest_of" 50 6 402 2 650 1076,iX ["self","reader","end_let"] 3 "finish" "LzmaReader.finish" 50 7 408 3 657 1085,iX ["self","reader","size","end_let","found","made","step"] 7 "steps" "LzmaReader.steps" 50 8 416 4 664 1094,[uZ ["marked","place","rest"] 1107,⟨(.type "dict"),aq,(.dict #[dg P "__module__" 1020<|.str "threepress.lzmadecode" 769,dg P "__firstlineno__" 1024<|.int 358 1023,bT P "__init__" 1034 614,bT P "reset_state" 1041 621,bT P "forget" 1048 628,bT P "must_be_whole" 1055 635,bT P "mark" 1064 642,bT P "piece" 1075 649,bT P "rest_of" 1084 656,bT P "finish" 1093 663,bT P "steps" 1106 670,bT P "__static_attributes__" 1110 671,dg P "__doc__" 1111 .none] 2), #[]⟩,⟨(.type "type"),aq,(.cls {name:="LzmaReader",bases:=[(.ref 595)],mro:=[(.ref 673),(.ref 595),(.type "object")],ns:=672,qualname:="LzmaReader",hasDict:=ah,slotNames:=[],subclasses:=[],abstract:=ao,collection:=aq,hasDel:=ao}), #[(ae<|.ref 600),aq,(ae<|.str "LzmaReader" 1013),(ae<|.str "LzmaReader" 1021),(ae<|.builtin "object.__new__"),(ae<|.bool ah)]⟩,mu 673,mw 673,uZ ["lit","match","rep","short"] 1116],iD ["number","word"] 2 "need_whole" "need_whole" 999 53 430 2 677 1121,iD ["number","least","most","word"] 4 "need_number" "need_number" 999 54 433 4 684 1129,iD ["step"] 1 "step_length" "step_length" 999 55 437 1 691 1139,iD ["octets","at","distance","length","here"] 5 "repeats" "repeats" 999 56 449 4 698 1146,iD ["octets","at","distance"] 3 "octet_behind" "octet_behind" 999 57 456 3 705 1157].flatten
def u5(P:cz):List fy:=[[jd,yb,Mm P 1173 "threepress.lzmaencode" 1114 "StepCoder" 460 1186 725 "put_literal" 1199 "put_plain" 1212 739 "put_beside" 1226 "put_length" 1238 "put_distance" 1251 "put_match" 1262 "put_index" 1272 "put_rep" 1283 "put_short" 1292 1295,jd,Mn 462 724 466 474 480 745 491 506 518 524 536 543,xo "StepCoder" 1168 460 715,xp 717 714 "threepress.lzmaencode" 1114],iD ["self","models","writer"] 3 "__init__" "StepCoder.__init__" 58 0 462 3 719 1178,iD ["self","state","place","before","octet","matched","start"] 7 "put_literal" "StepCoder.put_literal" 58 1 466 6 726 1187,iD ["self","start","node","octet","count","shift","bit"] 7 "put_plain" "StepCoder.put_plain" 58 2 474 5 733 1200,iD ["self","start","octet","matched","node","shift","foretold","bit"] 8 "put_beside" "StepCoder.put_beside" 58 3 480 4 740 1213,iD ["self","lengths","place","length","number","row"] 6 "put_length" "StepCoder.put_length" 58 4 491 4 747 1227,iD ["self","distance","length","slot","extra","base","rest"] 7 "put_distance" "StepCoder.put_distance" 58 5 506 3 754 1239,iD ["self","state","place","distance","length"] 5 "put_match" "StepCoder.put_match" 58 6 518 5 761 1252,iD ["self","state","place","index"] 4 "put_index" "StepCoder.put_index" 58 7 524 4 768 1263,iD ["self","state","place","index","length"] 5 "put_rep" "StepCoder.put_rep" 58 8 536 5 775 1273,iD ["self","state","place"] 3 "put_short" "StepCoder.put_short" 58 9 543 3 782 1284,[uZ ["models","writer"] 1293,Mo P 1173 "threepress.lzmaencode" 1114 460 1186 725 "put_literal" 1199 "put_plain" 1212 739 "put_beside" 1226 "put_length" 1238 "put_distance" 1251 "put_match" 1262 "put_index" 1272 "put_rep" 1283 "put_short" 1292 1295,⟨(.type "type"),aq,(.cls {name:="StepCoder",bases:=[(.type "object")],mro:=[(.ref 791),(.type "object")],ns:=790,qualname:="StepCoder",hasDict:=ah,slotNames:=[],subclasses:=[(.ref 917)],abstract:=ao,collection:=aq,hasDel:=ao}), #[aq,aq,(ae<|.str "StepCoder" 1166),(ae<|.str "StepCoder" 1174),(ae<|.builtin "object.__new__"),(ae<|.bool ah)]⟩,xr 1296 791,vR 1298 791,mu 791,mw 791,xq 791,yb,⟨(.type "dict"),aq,(.dict #[dg P "__module__" 1310<|.str "threepress.lzmaencode" 1114,dg P "__qualname__" 1312<|.str "LzmaWriter" 1311,dg P "__firstlineno__" 1314<|.int 548 1313,bT P "__init__" 1323 809,bT P "reset_state" 1330 816,bT P "reset_place" 1337 823,bT P "passed" 1345 830,bT P "check_back" 1353 837,bT P "check_length" 1361 844,bT P "literal" 1372 851,bT P "match" 1381 858,bT P "rep" 1390 865,bT P "short" 1397 872,bT P "end_mark" 1404 879,bT P "matched_octet" 1413 886,bT P "distance_of" 1421 893,bT P "write_step" 1434 900,bT P "write_steps" 1446 907,bT P "write_within" 1458 914,bT P "__static_attributes__" 1462 915] 20), #[]⟩,jd,⟨.none,aq,(.fields #[(.int 550 0),(.int 4 0),(.ref 808),(.int 556 0),(.int 4 0),(.ref 815),(.int 561 0),(.int 4 0),(.ref 822),(.int 564 0),(.int 4 0),(.ref 829),(.int 568 0),(.int 4 0),(.ref 836),(.int 573 0),(.int 4 0),(.ref 843),(.int 576 0),(.int 4 0),(.ref 850),(.int 583 0),(.int 4 0),(.ref 857),(.int 591 0),(.int 4 0),(.ref 864),(.int 600 0),(.int 4 0),(.ref 871),(.int 606 0),(.int 4 0),(.ref 878),(.int 610 0),(.int 4 0),(.ref 885),(.int 613 0),(.int 4 0),(.ref 892),(.int 621 0),(.int 4 0),(.ref 899),(.int 641 0),(.int 4 0),(.ref 906),(.int 647 0),(.int 4 0),(.ref 913)]), #[]⟩,xo "LzmaWriter" 1305 548 799,xp 801 798 "threepress.lzmaencode" 1114],iD ["self","models","writer"] 3 "__init__" "LzmaWriter.__init__" 59 0 550 3 803 1315,iD ["self"] 1 "reset_state" "LzmaWriter.reset_state" 59 1 556 1 810 1324,iD ["self"] 1 "reset_place" "LzmaWriter.reset_place" 59 2 561 1 817 1331,iD ["self","count"] 2 "passed" "LzmaWriter.passed" 59 3 564 2 824 1338].flatten
def u6(P:cz):List fy:=[iD ["self","distance"] 2 "check_back" "LzmaWriter.check_back" 59 4 568 2 831 1346,iD ["self","length"] 2 "check_length" "LzmaWriter.check_length" 59 5 573 2 838 1354,iD ["self","octet","before","matched","number"] 5 "literal" "LzmaWriter.literal" 59 6 576 4 845 1362,iD ["self","distance","length"] 3 "match" "LzmaWriter.match" 59 7 583 3 852 1373,iD ["self","index","length"] 3 "rep" "LzmaWriter.rep" 59 8 591 3 859 1382,iD ["self"] 1 "short" "LzmaWriter.short" 59 9 600 1 866 1391,iD ["self"] 1 "end_mark" "LzmaWriter.end_mark" 59 10 606 1 873 1398,iD ["self","octets","at"] 3 "matched_octet" "LzmaWriter.matched_octet" 59 11 610 3 880 1405,iD ["self","step"] 2 "distance_of" "LzmaWriter.distance_of" 59 12 613 2 887 1414,iD ["self","step","octets","at","length","before","distance"] 7 "write_step" "LzmaWriter.write_step" 59 13 621 4 894 1422,iD ["self","steps","octets","start","at","step"] 6 "write_steps" "LzmaWriter.write_steps" 59 14 641 4 901 1435,iD ["self","steps","octets","start","most","size"] 6 "write_within" "LzmaWriter.write_within" 59 15 647 6 908 1447,[uZ ["place","reps","state"] 1459,⟨(.type "dict"),aq,(.dict #[dg P "__module__" 1310<|.str "threepress.lzmaencode" 1114,dg P "__firstlineno__" 1314<|.int 548 1313,bT P "__init__" 1323 809,bT P "reset_state" 1330 816,bT P "reset_place" 1337 823,bT P "passed" 1345 830,bT P "check_back" 1353 837,bT P "check_length" 1361 844,bT P "literal" 1372 851,bT P "match" 1381 858,bT P "rep" 1390 865,bT P "short" 1397 872,bT P "end_mark" 1404 879,bT P "matched_octet" 1413 886,bT P "distance_of" 1421 893,bT P "write_step" 1434 900,bT P "write_steps" 1446 907,bT P "write_within" 1458 914,bT P "__static_attributes__" 1462 915,dg P "__doc__" 1463 .none] 2), #[]⟩,⟨(.type "type"),aq,(.cls {name:="LzmaWriter",bases:=[(.ref 791)],mro:=[(.ref 917),(.ref 791),(.type "object")],ns:=916,qualname:="LzmaWriter",hasDict:=ah,slotNames:=[],subclasses:=[],abstract:=ao,collection:=aq,hasDel:=ao}), #[(ae<|.ref 796),aq,(ae<|.str "LzmaWriter" 1303),(ae<|.str "LzmaWriter" 1311),(ae<|.builtin "object.__new__"),(ae<|.bool ah)]⟩,mu 917,mw 917,jd,yb,Mm P 1475 "threepress.matches" 1466 "Window" 650 1487 933 "clear" 1494 "have" 1502 948 "put" 1510 "feed" 1518 "need" 1526 "at" 1535 "copy" 1547 "octets" 1554 "newest" 1562 1567,jd,Mn 652 932 659 664 667 954 677 680 684 689 698 703,xo "Window" 1470 650 923,xp 925 922 "threepress.matches" 1466],xt ["self","size"] 2 "__init__" "Window.__init__" 61 0 652 2 927 1480,xt ["self"] 1 "clear" "Window.clear" 61 1 659 1 934 1488,xt ["self"] 1 "have" "Window.have" 61 2 663 1 941 1495].flatten
def u7(P:cz):List fy:=[[⟨(.type "property"),aq,(.fields #[(.ref 947),.none,.none,.none,(.str "have" 1502),(.bool ao)]), #[]⟩],xt ["self","octet"] 2 "put" "Window.put" 61 3 667 2 949 1503,xt ["self","octets"] 2 "feed" "Window.feed" 61 4 677 2 956 1511,xt ["self","distance"] 2 "need" "Window.need" 61 5 680 2 963 1519,xt ["self","distance","place"] 3 "at" "Window.at" 61 6 684 2 970 1527,xt ["self","distance","length","told","turn","octet"] 6 "copy" "Window.copy" 61 7 689 3 977 1536,xt ["self"] 1 "octets" "Window.octets" 61 8 698 1 984 1548,xt ["self","count"] 2 "newest" "Window.newest" 61 9 703 2 991 1555,[uZ ["ring","size","spot","total"] 1563,Mo P 1475 "threepress.matches" 1466 650 1487 933 "clear" 1494 "have" 1502 948 "put" 1510 "feed" 1518 "need" 1526 "at" 1535 "copy" 1547 "octets" 1554 "newest" 1562 1567,yZ "Window" 1000 1468,xr 1568 1000,vR 1570 1000,mu 1000,mw 1000],lF ["model","bit"] 2 "next_model" "next_model" 999 71 714 2 1005 1604,lF ["bit"] 1 "need_bit" "need_bit" 999 72 718 1 1012 1612,lF ["value","count"] 2 "need_value" "need_value" 999 73 721 2 1019 1619,[jd,yb,Mm P 1634 "threepress.rangecoder" 1575 "RangeReader" 724 1650 1040 "octet" 1657 "used" 1664 1054 "left" 1671 "ended" 1678 "fill" 1685 "bit" 1697 "direct" 1708 "tree" 1720 "reverse" 1734 1741,jd,Mn 726 1039 742 748 751 1060 754 757 762 775 788 794,xo "RangeReader" 1629 724 1029,xp 1031 1028 "threepress.rangecoder" 1575,⟨(.type "tuple"),aq,(.seq #[(.int 0 1639),.none] 0), #[]⟩,jd,AP,uZ ["self","octets","start","end","turn"] 1643,jd,IA "__init__" "RangeReader.__init__" 74 0,O3 "__init__" 1640 "RangeReader.__init__" 726 4 1034 1648,Ge "RangeReader.__init__" 74 1033 "threepress.rangecoder" 1575],lF ["self"] 1 "octet" "RangeReader.octet" 74 1 742 1 1041 1651,lF ["self"] 1 "used" "RangeReader.used" 74 2 748 1 1048 1658,lF ["self"] 1 "left" "RangeReader.left" 74 3 751 1 1055 1665].flatten
def u8(P:cz):List fy:=[lF ["self"] 1 "ended" "RangeReader.ended" 74 4 754 1 1062 1672,lF ["self"] 1 "fill" "RangeReader.fill" 74 5 757 1 1069 1679,lF ["self","models","index","model","bound","found"] 6 "bit" "RangeReader.bit" 74 6 762 3 1076 1686,lF ["self","count","value","turn","found"] 5 "direct" "RangeReader.direct" 74 7 775 2 1083 1698,lF ["self","models","start","count","node","turn"] 6 "tree" "RangeReader.tree" 74 8 788 4 1090 1709,lF ["self","models","start","count","node","value","place","found"] 8 "reverse" "RangeReader.reverse" 74 9 794 4 1097 1721,[uZ ["code","data","place","span","start","stop"] 1735,Mo P 1634 "threepress.rangecoder" 1575 724 1650 1040 "octet" 1657 "used" 1664 1054 "left" 1671 "ended" 1678 "fill" 1685 "bit" 1697 "direct" 1708 "tree" 1720 "reverse" 1734 1741,yZ "RangeReader" 1106 1627,xr 1742 1106,vR 1744 1106,mu 1106,mw 1106,jd,yb,Mm P 1756 "threepress.rangecoder" 1575 "RangeWriter" 801 1767 1124 "shift" 1775 "fill" 1782 1138 "need_open" 1789 "bit" 1801 "direct" 1811 "tree" 1825 "reverse" 1839 "size" 1846 "done" 1854 1861,jd,Mn 803 1123 811 821 826 1144 830 843 852 860 868 871,xo "RangeWriter" 1751 801 1114,xp 1116 1113 "threepress.rangecoder" 1575],lF ["self"] 1 "__init__" "RangeWriter.__init__" 75 0 803 1 1118 1761,lF ["self","carry"] 2 "shift" "RangeWriter.shift" 75 1 811 1 1125 1768,lF ["self"] 1 "fill" "RangeWriter.fill" 75 2 821 1 1132 1776,lF ["self"] 1 "need_open" "RangeWriter.need_open" 75 3 826 1 1139 1783,lF ["self","models","index","bit","model","bound"] 6 "bit" "RangeWriter.bit" 75 4 830 4 1146 1790,lF ["self","count","value","place"] 4 "direct" "RangeWriter.direct" 75 5 843 3 1153 1802,lF ["self","models","start","count","value","node","place","bit"] 8 "tree" "RangeWriter.tree" 75 6 852 5 1160 1812,lF ["self","models","start","count","value","node","place","bit"] 8 "reverse" "RangeWriter.reverse" 75 7 860 5 1167 1826,lF ["self"] 1 "size" "RangeWriter.size" 75 8 868 1 1174 1840].flatten
def u9(P:cz):List fy:=[lF ["self","turn"] 2 "done" "RangeWriter.done" 75 9 871 1 1181 1847,[uZ ["cache","closed","held","low","made","span"] 1855,Mo P 1756 "threepress.rangecoder" 1575 801 1767 1124 "shift" 1775 "fill" 1782 1138 "need_open" 1789 "bit" 1801 "direct" 1811 "tree" 1825 "reverse" 1839 "size" 1846 "done" 1854 1861,yZ "RangeWriter" 1190 1749,xr 1862 1190,vR 1864 1190,mu 1190,mw 1190,jd,AP,jd,jd,IA "_law_rows" "_law_rows" 999 77,O3 "_law_rows" 1871 "_law_rows" 878 0 1195 1874,Vr "_law_rows" "_law_rows" 999 77 "law_pq1224_01" 1869 1200],CD ["box","many","n"] 3 "_law_take" "_law_take" 999 78 880 2 1202 1877,CD ["box","steps","whole","turn","far","many","copy"] 7 "_law_text" "_law_text" 999 79 884 1 1209 1886,CD ["row"] 1 "_law_models" "_law_models" 999 80 896 1 1216 1899,[jd,AP,IA "_law_data" "_law_data" 999 81,QR "_law_data" 1906 898 4 1223,Vr "_law_data" "_law_data" 999 81 "law_pq1224_01" 1869 1226],CD ["work"] 1 "_law_word" "_law_word" 999 82 905 1 1228 1912,CD ["coder","packets"] 2 "_law_stand" "_law_stand" 999 83 912 2 1235 1919,[jd,AP,IA "_law_closed_right" "_law_closed_right" 999 84,QR "_law_closed_right" 1927 914 2 1242,Vr "_law_closed_right" "_law_closed_right" 999 84 "law_pq1224_01" 1869 1245],CD ["way","coder","packets","octets","is_marked","size","found"] 7 "_law_told" "_law_told" 999 85 928 5 1247 1933,CD ["steps","most","made","step","many"] 5 "_law_kept" "_law_kept" 999 86 940 2 1254 1946,[jd,AP,IA "law" "law" 999 87,QR "law" 1957 947 1 1261,Vr "law" "law" 999 87 "law_pq1224_01" 1869 1264]].flatten
def uu(P:cz):List fy:=[u0 P,u1 P,u2 P,u3 P,u4 P,u5 P,u6 P,u7 P,u8 P,u9 P].flatten
noncomputable def alt:List fy->Bool->List fy
 |[],_=>[]
 |o::l,ah=>o::alt l ao
 |_::l,ao=>alt l ah
noncomputable def bt:Nat->List fy->BT
 |0,_=>.nil
 |_+1,[]=>.nil
 |n+1,o::l=>.node o (bt n<|alt l ah)<|bt n<|alt l ao
def uT(P:cz):BT:=bt 12<|uu P
def T0(P:cz):BT:=bt 12<|(((uu P).take 15).set 3<|boot_o_3 P).set 12<|AP
def T25(P:cz):BT:=bt 12<|(((uu P).take 190).set 3<|ZY P "threepress.lzmastate" 362 31).set 12<|Vu 33
def T49(P:cz):BT:=bt 12<|(((uu P).take 466).set 3<|ZY P "threepress.lzmadecode" 769 54).set 12<|Vu 84
def T59(P:cz):BT:=bt 12<|((((uu P).take 796).set 3<|ZY P "threepress.lzmaencode" 1114 63).set 12<|Vu 108).set 791<|yZ "StepCoder" 791 1166
def T75(P:cz):BT:=bt 12<|(((uu P).take 1111).set 3<|ZY P "threepress.rangecoder" 1575 77).set 12<|Vu 126
def UG(P:cz):BT:=uT P
def D3:DO:={scope:=pw.main.scope,locals:=mainNs,globals:=mainNs,cells:=[],code:=.ref 13,frame:=ae 14}
def CE:Code:=.body (zW pw) D3
def AQ(T:BT)(n k:Nat)(os:hZ):SharedT:=⟨T,n,lf0, #[],{},k,os⟩
noncomputable abbrev O5:List PySem.Frame:=[topFrame default]
noncomputable def st0:List gK:=(lX.drop 0).take 25
theorem pc0(w:iU)(os:hZ):PySem.W.Fast.tw10110043849684766642 PySem.W.Fast.tw14364793385576792824 pw w 11 (ae<|.ref 6) 1 2293 (AQ (T0 w.params) 15 187 os) (DQ st0 D3 CE ⟨0,0,0,0⟩ O5)=ae (.next,AQ (T25 w.params) 190 451 os,CE,⟨65,0,66,66⟩):=by kernel_rfl
noncomputable def Vv:List gK:=(lX.drop 25).take 24
theorem qbl(w:iU)(os:hZ):PySem.W.Fast.tw10110043849684766642 PySem.W.Fast.tw14364793385576792824 pw w 11 (ae<|.ref 6) 1 1833 (AQ (T25 w.params) 190 451 os) (DQ Vv D3 CE ⟨65,0,66,66⟩ O5)=ae (.next,AQ (T49 w.params) 466 836 os,CE,⟨232,0,235,39⟩):=by kernel_rfl
noncomputable def Vw:List gK:=(lX.drop 49).take 10
theorem qbm(w:iU)(os:hZ):PySem.W.Fast.tw10110043849684766642 PySem.W.Fast.tw14364793385576792824 pw w 11 (ae<|.ref 6) 1 1994 (AQ (T49 w.params) 466 836 os) (DQ Vw D3 CE ⟨232,0,235,39⟩ O5)=ae (.next,AQ (T59 w.params) 796 1303 os,CE,⟨460,0,547,84⟩):=by kernel_rfl
noncomputable def Vx:List gK:=(lX.drop 59).take 16
theorem qbn(w:iU)(os:hZ):PySem.W.Fast.tw10110043849684766642 PySem.W.Fast.tw14364793385576792824 pw w 11 (ae<|.ref 6) 1 2065 (AQ (T59 w.params) 796 1303 os) (DQ Vx D3 CE ⟨460,0,547,84⟩ O5)=ae (.next,AQ (T75 w.params) 1111 1749 os,CE,⟨724,0,800,20⟩):=by kernel_rfl
noncomputable def Vy:List gK:=(lX.drop 75).take 13
theorem qbo(w:iU)(os:hZ):PySem.W.Fast.tw10110043849684766642 PySem.W.Fast.tw14364793385576792824 pw w 11 (ae<|.ref 6) 1 867 (AQ (T75 w.params) 1111 1749 os) (DQ Vy D3 CE ⟨724,0,800,20⟩ O5)=ae (.next,AQ (UG w.params) 1266 1963 os,CE,⟨947,0,969,15⟩):=by kernel_rfl
theorem qe3(w:iU)(os:hZ):PySem.W.Fast.tw15667345088766844465 PySem.W.Fast.tw14364793385576792824 pw w 11 (ae<|.ref 6) 12 ⟨zX w.params,Oq [],T8,ZK,os⟩ (topStub pw)=ae ((AQ (T0 w.params) 15 187 os).abs,⟨PySem.W.Fast.tw11892475500146522536 PySem.W.Fast.tw14364793385576792824 CE,CE,default,O5⟩):=by kernel_rfl
theorem QS(w:iU)(os:hZ):segRun ZL pw w 11 (ae<|.ref 6) 1 1 (AQ (T0 w.params) 15 187 os).abs (blockOf (zW pw) D3 CE default O5)=ae (.next,(AQ (T0 w.params) 15 187 os).abs,CE,default):=by kernel_rfl
theorem Vz:zW pw=st0++(Vv++(Vw++(Vx++(Vy++[])))):=by kernel_rfl
theorem qbp(w:iU)(os:hZ):topRun ZL pw w 11 (ae<|.ref 6) 2 (AQ (UG w.params) 1266 1963 os).abs ⟨doneF .next,CE,⟨947,0,969,15⟩,O5⟩=ae (AQ (UG w.params) 1266 1963 os).abs:=by kernel_rfl
theorem qbq:∃M,(∀(w:iU) (os:hZ),topRun ZL pw w 11 (ae<|.ref 6) M ⟨zX w.params,Oq [],T8,ZK,os⟩ (topStub pw)=ae (AQ (UG w.params) 1266 1963 os).abs)/\c7 M 20000=ah:=by
 refine Exists.intro ?M (w8 ?a ?b)
 rotate_left
 intro w os;have hp:=qe3 w os;rw[<-PySem.W.Fast.te15667345088766844465, <-PySem.W.Fast.te11892475500146522536, <-PySem.W.Fast.te14364793385576792824] at hp;have h0:=pc0 w os;rw[<-PySem.W.Fast.te10110043849684766642, <-PySem.W.Fast.te14364793385576792824] at h0;have h25:=qbl w os;rw[<-PySem.W.Fast.te10110043849684766642, <-PySem.W.Fast.te14364793385576792824] at h25;have h49:=qbm w os;rw[<-PySem.W.Fast.te10110043849684766642, <-PySem.W.Fast.te14364793385576792824] at h49;have h59:=qbn w os;rw[<-PySem.W.Fast.te10110043849684766642, <-PySem.W.Fast.te14364793385576792824] at h59;have h75:=qbo w os;rw[<-PySem.W.Fast.te10110043849684766642, <-PySem.W.Fast.te14364793385576792824] at h75;have k:=zY (zZ h0)<|zY (zZ h25)<|zY (zZ h49)<|zY (zZ h59)<|zY (zZ h75)<|piece_nil<|qbp w os;rw[<-Vz] at k;exact go_top hp<|piece_block (QS w os) k;decide+kernel
section
variable{C:Cx}{e:Expr}{r:Int}
theorem QT(h:Q (.int (i+j) s.toks) {s with toks:=s.toks+1}):aC (bx C.prog C.w) A (mP .Add (.int i t)<|.int j u) Q E s:=@qaf C.prog C.w A E s i j t u Q h
theorem QU(h:Q (.int (i-j) s.toks) {s with toks:=s.toks+1}):aC (bx C.prog C.w) A (mP .Sub (.int i t)<|.int j u) Q E s:=by with_reducible exact qag h
theorem QV(h:Q (.int (i*2 ^ j.toNat) s.toks) {s with toks:=s.toks+1})(hj:0<=j/\j<=1000000)(hi:i.natAbs<2 ^ 64):aC (bx C.prog C.w) A (mP .LShift (.int i t)<|.int j u) Q E s:=by with_reducible exact qah hj.1 hj.2 hi h
theorem QW(h:Q (.int (i.fdiv<|2 ^ j.toNat) s.toks) {s with toks:=s.toks+1})(hj:0<=j):aC (bx C.prog C.w) A (mP .RShift (.int i t)<|.int j u) Q E s:=by with_reducible exact qai hj h
theorem VA(h:Q (.int (dM i j) s.toks) {s with toks:=s.toks+1}):aC (bx C.prog C.w) A (mP .BitOr (.int i t)<|.int j u) Q E s:=by with_reducible exact qaj h
noncomputable def noStar:List Expr->Bool
 |[]=>ah
 |e::r=> !Vn e&&noStar r
theorem lQ(e:Expr)(es:List Expr):noStar (e::es)=(noStar [e]&&noStar es):=congrArg (· &&noStar es) (Bool.and_true<|!Vn e).symm
theorem jm:∀{es:List Expr},noStar es=ah->∀e∈es,∀x p,e≠ .Starred x p
 |e::es,h,e',hm,x,p=>by
  rcases aV.mp hm with rfl |hm
  . rintro rfl;contradiction
  . exact jm (aQ.mp<|(lQ e es).symm.trans h).2 e' hm x p
end
section
variable{o e:Expr}{d:br}{i k:Int}{n:Nat}
def DI(d:br)(n:Nat)(f:Int->Option aG):bp:=λg=>
 ∃o es ep,g=[(d,o)]/\o.ExactDict/\o.data= .dict es ep/\(∀e∈es,∃k,US k e.key=ah/\e.hash=hashInt k)/\es.size=(fc n).countP (λi:Nat=>(f (i:Int)).isSome)/\(∀k,findBy US es k=f k)
theorem Sat.di(H:Sat C (DI d n f::R) s):∃o es ep,o.ExactDict/\o.data= .dict es ep/\KeysOf (lA C.prog C.w) es/\es.size=(fc n).countP (λi:Nat=>(f (i:Int)).isSome)/\(∀k,findBy (lA C.prog C.w).is es k=f k)/\Sat C (pt d o::R) s:=by
 rwa[nn λzn=>?_,aT H λfr aH=>?_,-H,aK aH λg cX t=>?_,-aH,dF cX λg1 g2 gW jl hg=>?_,-cX,!gW,Mg jl λo es ep oN h1 h2 h3 h4 h5=>?_,zn,-zn,-jl,!oN,⟨o,es,ep,h1,h2,h3,h4,h5,fr,_,⟨_,_,rfl,rfl,hg⟩,t⟩]
theorem Sat.ID(H:Sat C (DI d n f::R) s):s.heap.MapOf (lA C.prog C.w) d f:=by
 rwa[Mg H.di λo es ep h1 h2 h3 h4 h5 H'=>?_,⟨o,es,ep,H'.get (by rwa[af h1.1,nofun]),h1,h2,h3,h5⟩]
theorem Sat.O6(H:Sat C (DI d n f::R) s)(k:lu d s.heap h')(e:h'.get? d=ae o')(h1:o'.ExactDict)(h2:o'.data= .dict es ep)(h3:KeysOf (lA C.prog C.w) es)(h4:es.size=(fc n).countP (λi:Nat=>(f' (i:Int)).isSome))(h5:∀k,findBy (lA C.prog C.w).is es k=f' k):Sat C (DI d n f'::R) {s with heap:=h',toks:=t}:=by
 refine Mg H.di λo es0 ep0 g1 g2 g3 g4 g5 H'=>?_;have:=H'.set (t:=t) k e (.inl ⟨λvs q=>by(rw[h2] at q;contradiction),by exact af h1.1<|af g1.1 rfl⟩);rw[bU<|by rwa[af h1.1,nofun]] at this;exact this.imp λg hg=>⟨o',es,ep,hg,h1,h2,h3,h4,h5⟩
theorem yc{f:Int->Option aG}{i:Nat}{n:Nat}:i<n->(fc n).countP (λj:Nat=>(if(j:Int)=(i:Int) then ae v else f (j:Int)).isSome)=if(f i).isSome then(fc n).countP (λj:Nat=>(f (j:Int)).isSome) else(fc n).countP (λj:Nat=>(f (j:Int)).isSome)+1:=by
 induction n with
 |zero=>exact λh=>absurd h<|iS _
 |succ n ih=>
  intro h
  have step:∀g:Nat->Bool,(fc<|n+1).countP g=(fc n).countP g+if g n then 1 else 0:=λg=>by
   rw[Ot,List.countP_append,List.countP_singleton]
  rw[step,step];by_cases e:i=n
  . subst e
    have same:(fc i).countP (λj:Nat=>(if(j:Int)=(i:Int) then ae v else f (j:Int)).isSome)=(fc i).countP (λj:Nat=>(f (j:Int)).isSome):=by
     refine List.countP_congr λj hj=>?_;have:j≠i:=uR<|List.mem_range.mp hj;rw[if_neg<|by lia]
    rw[same,if_pos rfl];cases f (i:Int)<;>simp
  . have ih:=ih (by lia)
    have mO:¬((n:Int)=(i:Int)):=by lia
    rw[ih,if_neg mO]
    split<;>lia
theorem QX{i:Nat}(H:Sat C l s)(u:vI (DI d n f) (DI d n λk=>if k=(i:Int) then ae v else f k) l l')(hi:i<n)(hn:n<=1000000)(ZZ:(d==DR)=ao)(q:∀s',Sat C l' s'->Q () s'):aC (bx C.prog C.w) A (oA (.ref d) (.int i t) v) Q E s:=by
 refine aK u.perm λR p1 p2=>?_;have H1:=H.perm p1;have hm:=H1.ID;refine Mg H1.di λo es ep g1 g2 g3 g4 g5 H'=>?_;have ho:=H'.get (by erw [af g1.1];simp);have OF:=intKind_is C.prog C.w i t;have hz:es.size<=n:=by rwa[af g4,az qc<|by simp]
 unfold oA
 try with_reducible refine cL ?_
 refine ak (UT hm.typeIs (by decide) ?_)
 refine ak (qs (name:=ab "__setitem__") hm.typeIs UU
  (gz UU hm.typeIs entry_dict_setitem ?_<|args_dict_setitem _ _ _))
 erw [(?_:aC _ _ (qak "__setitem__" ⟨[.ref d,.int i t,v],[]⟩>>=_) _ _ s),ak<|wpAny_notOrdered_dict hm.typeIs ?_,(?_:aC _ _ (dictSet d (.int i t) v>>=_) _ _ s),ak];unfold dictSet
 try with_reducible refine cL ?_
 refine ak<|(lA C.prog C.w).pyHash OF ?_;unfold dictSetHashed
 try with_reducible refine cL ?_
 refine ak<|wpAny_dictFind_of (s:={s with toks:=s.toks+1}) OF ho g2 g3 ?_;have key:=T5 (lA C.prog C.w).is es (i:Int);rw[g5] at key
 cases Lr:es.findIdx? λe=>(lA C.prog C.w).is i e.key with
 |some j=>
  have Z0:(f i).isSome=ah:=by
   refine af key<|af Lr ?_;obtain⟨ju,-⟩:=sD.mp Lr;simp[l7 ju]
  erw [ak<|DS<|ak<|wpAny_updateDict (s:={s with toks:=s.toks+1}) ho g2<|wpAny_point ?_,au<|bV .none rfl<|au<|q _<|(H1.O6 (t:=s.toks+1) (bu ..) (bj _ ho<|sF<|Ou g2 _) (g1.mapDict _) (Ou g2 _) (g3.modify _ _) ?_ λx=>?_).perm p2.symm]
  . exact af HN<|af g4<|af (yc hi)<|af (if_pos Z0) rfl
  . exact af (qfd (lA C.prog C.w).is (lA C.prog C.w).inj es i x v j Lr)<|af (g5 _) rfl
 |none=>
  have Z1:¬(f i).isSome=ah:=by refine af key<|af Lr ?_;simp
  erw [ak (DS<|wpAny_updateDictKeys (hz:=by rwa[af bw,‹a<=1000000->b<=a->b<=16777216› hn hz]) (s:={s with toks:=s.toks+1}) ho g2 ?_),au<|bV .none rfl<|au<|q _<|(H1.O6 (t:=s.toks+1) (bu ..) (bj _ ho<|sF<|Hq g2 _) (g1.mapDictKeys _) (Hq g2 _) (g3.push OF _) ?_ λx=>?_).perm p2.symm]
  . exact af (w7 _)<|af g4<|af (yc hi)<|af (if_neg Z1) rfl
  . exact af (findBy_push (lA C.prog C.w).is es i x _ _ v (KeyKind.is_eq_decide OF) Lr)<|af (g5 _) rfl
end
section
variable{K:qo}{a Cl:br}{n:Nat}
def jJ(a:br)(xs:List aG):bp:=λg=>∃n,g=[(a,{cls:=.type "list",data:=.seq xs.toArray n})]
theorem Sat.lst(H:Sat C (jJ a xs::R) s):s.heap.IsList a xs.toArray:=by
 exact c4 (Sat.ex.mp H) λn H=>(⟨_,H.get<|not_eq_of_beq_eq_false rfl,rfl,n,rfl⟩)
theorem Sat.CF(H:Sat C (jJ a xs::R) s):∃n,Sat C (pt a {cls:=.type "list",data:=.seq xs.toArray n}::R) s:=Sat.ex.mp H
theorem Ei{k:Int}(u:vI (jJ a xs) (jJ a<|xs.set k.toNat v) l l')(H:Sat C l s)(h0:0<=k)(HD:k<2 ^ 63)(hk:k<xs.length)(h:∀s',Sat C l' s'->Q () s'):aC (bx C.prog C.w) A (oA (.ref a) (.int k t) v) Q E s:=by
 refine aK u.perm λR p1 p2=>?_;have H1:=H.perm p1;refine c4 H1.CF λn H2=>?_;have e0:=H2.get<|not_eq_of_beq_eq_false rfl;have hl:=H1.lst;generalize VB:({cls:=.type "list",data:=.seq xs.toArray n}:fy)=ob at*;have hd:ob.data= .seq xs.toArray n:=by(first |exact VB.symm |exact congrArg _ VB.symm |exact dq VB rfl)
 unfold oA
 try with_reducible refine cL ?_
 first |refine ak (au ?_) |skip
 refine ak (UT hl.typeIs (by rfl) ?_)
 refine ak (qs (name:=ab "__setitem__") hl.typeIs UW
  (gz UW hl.typeIs entry_list_setitem ?_<|args_list_setitem _ _ _))
 erw [(?_:aC _ _ (qal (.int k t)>>=_) _ _ s),ak<|wpAny_listSubscript_int (fitsIndex_of h0 HD) ?_,-HD,c4 (c6 h0) λj aH=>?_,!aH];have hj:j<xs.toArray.size:=by simp;exact(aF.mp hk)
 have hx':xs.toArray[j]? =ae xs.toArray[j]:=l7 hj;erw [(?_:aC _ _ ((seqItemAt a j>>=λr=>cg (r.map (j,·)))>>=_) _ _ s),ak<|ak<|wpAny_seqItemAt e0 hd<|au ?_,af hx',(?_:aC _ _ (setSeqItemAt a j v>>=_) _ _ s),c4 (Qg hd (·.setIfInBounds j v)) λn' D2=>?_];have Aa:=bj (K8 (·.setIfInBounds j v)) e0<|K9 D2;refine ak<|wpAny_setSeqItemAt e0 hd ?_
 have fin:Sat C l' {s with heap:=s.heap.update a (K8 (·.setIfInBounds j v))}:=by
  have H3:=H2.set (t:=s.toks) (bu s.heap a _) Aa (.inl ⟨λvs q=>by(rw[D2] at q;contradiction),by(first |exact(gg _ _) |exact congrArg _ (gg _ _) |exact af (gg _ _) rfl)⟩);rw[bU<|by rwa[af (gg _ _)<|dq VB ?_,not_eq_of_beq_eq_false rfl]] at H3;erw [Sat.perm p2.symm<|H3.imp λg hg=>?_,!hg,⟨n',?_⟩]
  have hm:ob.mapSeq (·.setIfInBounds j v)={cls:=.type "list",data:=.seq (xs.toArray.setIfInBounds j v) n'}:=by
   have:∀o:fy,o.cls= .type "list"->o.dict=aq->o.slots= #[]->o.data= .seq (xs.toArray.setIfInBounds j v) n'->o={cls:=.type "list",data:=.seq (xs.toArray.setIfInBounds j v) n'}:=by
    rintro⟨_,_,_,_⟩ rfl rfl rfl rfl;rfl
   rwa[!VB,this _ rfl rfl rfl D2]
  erw [(?_:[(a,_)]=[(a,_)]),af hm];simp
 first
  |exact ak<|au<|au<|bV .none rfl<|au<|h _ fin
  |exact au<|bV .none rfl<|au<|h _ fin
structure IF(K:Frag)(Cl:Addr)(fget fset:Addr):Prop where
 noSeq:noSeq K Cl=true
 get:findIn K (.ref Cl) "__getitem__"=some (some<|.ref fget)
 VD:fnIn K fget=true
 VE:isFn K (.ref fget)=true
 set:findIn K (.ref Cl) "__setitem__"=some (some<|.ref fset)
 VF:isFn K (.ref fset)=true
end
section
variable{C:Cx}{A:c5}{l:List bp}{s:aE}{x:bI}{v:aG}{o:Expr}{a:br}{E:aG->aE->Prop}{n:Nat}{Q:La->aE->Prop}
structure Iter(C:Cx)(A:Around)(it:Value)(It:Nat->bp)(Fin:List bp)(n:Nat)(Pv:Nat->Value->Prop):Prop where
 item:∀i l (Q:Option Value->Shared->Prop) E s,i<n->Sat C (It i::l) s->(∀v s',Pv i v->Sat C (It (i+1)::l) s'->Q (some v) s')->wpAny (model C.prog C.w) A (pyNext it) Q E s
 fin:∀l (Q:Option Value->Shared->Prop) E s,Sat C (It n::l) s->(∀s',Sat C (Fin++l) s'->Q none s')->wpAny (model C.prog C.w) A (pyNext it) Q E s
def QY(it:br)(x left step:Int):bp:=pt it {cls:=.type "range_iterator",dict:=aq,data:=.fields #[fC x,fC left,fC step],slots:= #[]}
theorem CG{a}(hh:A.handled=aq):Iter C A (.ref it) (λi=>QY it (a+(i:Nat)*c) ((n:Int)-(i:Nat)) c) [] n (λi v=>∃t,v= .int (a+(i:Nat)*c) t) where
 item i l Q E s hi H k:=by
  have hg:=H.get<|not_eq_of_beq_eq_false rfl;refine wpAny_pyNext_range_item (x:=a+(i:Nat)*c) (left:=(n:Int)-(i:Nat)) (step:=c) hg (‹a<b->b-a>0› hi) λh' qe4 hs=>k _ _ ⟨_,rfl⟩ ?_;have:=H.set (t:=s.toks+1) hs qe4<|.inr ⟨_,rfl⟩;rw[bU<|not_eq_of_beq_eq_false rfl] at this;have e1:a+((i+1:Nat):Int)*c=a+(i:Int)*c+c:=by push_cast;exact af (qaL _ _ _)<|af (rk _)<|af (BZ _ _ _) rfl
  have e2:(n:Int)-((i+1:Nat):Int)=(n:Int)-(i:Int)-1:=by push_cast;exact‹a-(b+1)&&a-b-1›
  unfold QY;rwa[af e1<|af e2 ?_,this]
 fin l Q E s H k:=by
  have hg:=H.get<|not_eq_of_beq_eq_false rfl;exact wpAny_pyNext_range_end hh hg (‹0>=a-a›) λh' he=>k _<|H.lose ⟨_,rfl⟩ he (t:=s.toks)
theorem Gf{a}{v}{Q}(Up:fp a b c=ah)(hn:(n:Int)=cV a b c)(H:Sat C (pt r {cls:=.type "range",dict:=aq,data:=.fields #[.int a t,.int b u,.int c v],slots:= #[]}::l) s)(k:∀it s',Sat C (QY it (a+(0:Nat)*c) ((n:Int)-(0:Nat)) c::l) s'->Q (.ref it) s'):aC (bx C.prog C.w) A (z0<|.ref r) Q E s:=by
 refine wpAny_pyIter_range (a:=a) (b:=b) (c:=c) (t:=t) (u:=u) (v:=v) (H.get<|not_eq_of_beq_eq_false rfl) Up<|k _ _ ?_;have:=H.drop.alloc (t:=s.toks) (o:={cls:=.type "range_iterator",data:=.fields #[fC a,fC<|cV a b c,fC c]}) rfl;rw[bU<|not_eq_of_beq_eq_false rfl] at this;unfold QY;rwa[af (show a+((0:Nat):Int)*c=a by simp) (af (show(n:Int)-((0:Nat):Int)=cV a b c by lia) ?_),this]
def LIt(it a:br)(i:Nat):bp:=λg=>∃o,g=[(it,o)]/\o.cls= .type "list_iterator"/\o.data= .fields #[.ref a,.int i 0]
def vS(it a:br)(xs:List aG)(i:Nat):bp:=SL [LIt it a i,jJ a xs]
theorem mx(hh:A.handled=aq):Iter C A (.ref it) (vS it a xs) [jJ a xs] xs.length (λi v=>xs[i]? =ae v) where
 item i l Q E s hi H k:=by
  have H:=Sat.unpack.mp H;erw [nn λzn=>?_,aT H λfr aH=>?_,-H,aK aH λg cX t=>?_,-aH,dF cX λg1 g2 gW jl hg=>?_,-cX,!gW,dh jl λo oN h1 h2=>?_,-jl,!oN];have H0:Sat C (pt it o::jJ a xs::l) s:=⟨fr,_,⟨_,_,rfl,rfl,hg⟩,t⟩;have hl:=(iC H0).lst;have ho:=H0.get (by rwa[af h1,nofun]);obtain⟨v,hv⟩:∃v,xs[i]? =ae v:=⟨xs[i],by exact aI<|by assumption⟩;erw [zn,-zn,wpAny_pyNext_list_item ⟨o,ho,h1,h2⟩ hl (by simpa using hv) λh' OG hs=>k _ _ hv ?_,dh OG λo' e' c' d'=>?_,-OG];have:=H0.set (t:=s.toks) hs e'<|.inr ⟨_,h2⟩;rw[bU<|by rwa[af c',nofun]] at this;refine(Sat.unpack (l:=[_,_])).mpr<|this.imp λg hg=>⟨o',hg,c',d'⟩
 fin l Q E s H k:=by
  have H:=Sat.unpack.mp H;erw [nn λzn=>?_,aT H λfr aH=>?_,-H,aK aH λg cX t=>?_,-aH,dF cX λg1 g2 gW jl hg=>?_,-cX,!gW,dh jl λo oN h1 h2=>?_,zn,-zn,-jl,!oN];have H0:Sat C (pt it o::jJ a xs::l) s:=⟨fr,_,⟨_,_,rfl,rfl,hg⟩,t⟩;have hl:=(iC H0).lst;have ho:=H0.get (by rwa[af h1,nofun]);exact wpAny_pyNext_list_end hh ⟨o,ho,h1,h2⟩ hl (by simp) λh' he=>k _<|H0.lose ⟨_,h2⟩ he (t:=s.toks)
theorem vT{Q}(H:Sat C (jJ a xs::l) s)(k:∀it s',Sat C (vS it a xs 0::l) s'->Q (.ref it) s'):aC (bx C.prog C.w) A (z0<|.ref a) Q E s:=by
 refine wpAny_pyIter_list H.lst<|k _ _ ?_;have:=H.alloc (t:=s.toks) (o:={cls:=.type "list_iterator",data:=.fields #[.ref a,.int 0 0]}) rfl;rw[bU<|not_eq_of_beq_eq_false rfl] at this;exact(Sat.unpack (l:=[_,_])).mpr<|this.imp λg hg=>⟨_,hg,rfl,rfl⟩
end
theorem IG:gX.map (λe=>K5 e.1)=gX.map (λe=>ae e.2):=by kernel_rfl
theorem VG{K}(F:KF K):∀e∈gX,T6 K eD e.1=ae aq/\K5 e.1=ae e.2/\e.1≠"__name__":=by
 intro e he;have h1:∀e∈gX,e.1≠"__name__":=by decide+kernel
 exact(gp (F.O1 e he) (Lb.mp IG e he)<|h1 e he)
theorem vd{K}(G:Gl C K)(F:KF K)(sc:mr scope ns gs)(hx:x∈gs)(e:(x,v)∈gX):EvV C A l (eo qual scope L f cdv cl) (.Name x pos) v:=
 let⟨a,b,c⟩:=VG F _ e
 Mk G sc hx a b c
noncomputable def Ab:Code->Bool
 |.builtin id _=>qt.contains id||["bytearray.__contains__","bytearray.__mod__","bytearray.__rmod__","_struct.pack_into.held","bytearray.find.held"].contains id
 |_=>ao
def xb(Γ:Ctx):Prop:=Ab Γ.code=ao/\∀x∈Γ.below,Ab x.1=ao
def a6{α:Type}(M:HO)(A:c5)(t:qD α)(Q:α->aE->Prop)(E:aG->aE->Prop)(s:aE):Prop:=
 ∀Γ p,Γ.In A->xb Γ->wp M Γ t (λa z s'=>Q a s') (λe z s'=>E e s') p s
def cQ(M:HO)(A:c5)(c:Code)(R:zU->aE->Prop)(s:aE):Prop:=
 ∀Γ p,Γ.code=c->Γ.Below A->xb Γ->wpCode M Γ R p s
section
variable{M:HO}{A:c5}{E:aG->aE->Prop}{s:aE}
theorem a6.of{t:qD α}{Q:α->aE->Prop}(h:aC M A t Q E s):a6 M A t Q E s:=λΓ p hΓ z=>h Γ p hΓ
theorem cQ.of(h:Lc M A c R s):cQ M A c R s:=λΓ p hc hΓ z=>h Γ p hc hΓ
theorem aY{a:α}{Q:α->aE->Prop}(h:Q a s):a6 M A (cg a) Q E s:=λz z z z=>h
theorem b8{t:qD α}{Q:α->aE->Prop}{Q':α->aE->Prop}(h:a6 M A t Q E s)(hQ:∀a s,Q a s->Q' a s)(hE:∀e s,E e s->E' e s):a6 M A t Q' E' s:=
 λΓ p hΓ hc=>ro M Γ t (λa z s=>hQ a s) (λe z s=>hE e s) p s<|h Γ p hΓ hc
theorem aR{m:qD α}{f:α->qD β}{Q:β->aE->Prop}(h:a6 M A m (λa s'=>a6 M A (f a) Q E s') E s):a6 M A (m>>=f) Q E s:=λΓ p hΓ hc=>by
 exact af (ZI _ _ _ _ _ _ _ _)<|ro M Γ m (λa p' s' h'=>h' Γ p' hΓ hc) (λz z z h'=>h') p s<|h Γ p hΓ hc
theorem bh{m:qD α}{f:α->qD β}{Q:β->aE->Prop}(h:aC M A m (λa s'=>a6 M A (f a) Q E s') E s):a6 M A (m>>=f) Q E s:=aR<|a6.of h
theorem gH{m:qD α}{Q}(h:a6 M A m Q (λe s'=>a6 M A (k e) (λz lP=>E e lP) E s') s):a6 M A (m.onRaise k) Q E s:=λΓ p hΓ hc=>by
 exact af (Sem.wp_onRaise _ _ _ _ _ _ _ _)<|ro M Γ m (λz z z h'=>h') (λe p' s' h'=>h' Γ p' hΓ hc) p s<|h Γ p hΓ hc
theorem bJ{m:qD α}{Q:α->aE->Prop}(h:a6 M A m Q E s):a6 M A (iO vs m) Q E s:=λΓ p hΓ hc=>by rwa[af (Sem.wp_holding _ _ _ _ _ _ _ _),h Γ p hΓ hc]
theorem vU{m:qD α}{Q}(h:a6 M A m Q E s):a6 M A (m.keep vs) Q E s:=λΓ p hΓ hc=>by rwa[af (Sem.wp_keep _ _ _ _ _ _ _ _),h Γ p hΓ hc]
theorem iJ(h:a6 M A m Q E s):a6 M A (operate vs m) Q E s:=λΓ p hΓ hc=>by rwa[af (Sem.wp_operate _ _ _ _ _ _ _ _),h Γ p hΓ hc]
theorem fL{m:qD α}{a:α}{Q:α->aE->Prop}(h:m=cg a)(hq:Q a s):a6 M A m Q E s:=h▸aY hq
theorem fY(h:Q () s):a6 M A (mL pos) Q E s:=a6.of<|Hr h
theorem my(h:Q () s):a6 M A point Q E s:=a6.of<|wpAny_point h
theorem xb.enter{Γ}(h:xb Γ){c}(hc:Ab c=ao)(hd:Option aG)(p:Pos):xb (Γ.enter c hd p):=
 ⟨hc,λx hx=>by
  rcases aV.mp hx with rfl |hx
  . exact h.1
  . exact h.2 x hx⟩
theorem Ej{c}{h}{Q}(hc:cQ M (A.mark h) c (λr s'=>match r with |.ok f=>Q f s' |.error e=>E e s') s)(hd:Ab c=ao:=by rfl)(hnb:h≠ae byPass:=by intro x;contradiction):a6 M A (run c h) Q E s:=
 λΓ p hΓ AS=>by rwa[af (Sem.wp_run _ _ _ _ _ _ _ _),hc _ p rfl (hΓ.enter c h p hnb)<|AS.enter hd _ _]
theorem m4{c}{Q}(hc:cQ M A c (λr s'=>match r with |.ok (.ret v)=>Q v s' |.ok _=>False |.error e=>E e s') s)(hd:Ab c=ao:=by rfl):
 a6 M A (qfa c) Q E s:=λΓ p hΓ AS=>by rwa[af (Sem.wp_runValue _ _ _ _ _ _ _),hc _ p rfl (hΓ.enter c aq p<|by intro x;contradiction)<|AS.enter hd _ _]
theorem eK{kw}(hc:cQ M A (.call f ⟨pos,kw⟩) (oR Q E) s):a6 M A (i5 f pos kw) Q E s:=m4 hc
theorem cT{c}{R}(h:a6 M (A.under c) (M.den c) (λfin s'=>match fin with |.done f=>R (.ok f) s' |.again c'=>(c'.quiet=ah/\Ab c'=ao)/\cQ M A c' R s') (λe s'=>R (.error e) s') s):cQ M A c R s:=λΓ p hc hΓ AS=>by
 erw [af (propext<|wpCode_iff_wp _ _ _ _ _)<|af hc ?_,ro M Γ _ (λfin p' s' h'=>?_) (λz z z h'=>h') p s<|h Γ p (hc▸hΓ.in) AS]
 cases fin with
 |done f=>exact h'
 |again c'=>exact⟨h'.1.1,h'.2 (Γ.goto c') p' rfl (hΓ.goto c') ⟨h'.1.2,AS.2⟩⟩
theorem qR{c:Code}{R}(hq:c.quiet=ah)(hd:Ab c=ao)(I:Nat->aE->Prop)(turn:∀n s,I n s->a6 M (A.under c) (M.den c)
 (λfin s'=>match fin with
  |.done f=>R (.ok f) s'
  |.again c'=>(c'=c/\∃m,m<n/\I m s')\/((c'.quiet=ah/\Ab c'=ao)/\cQ M A c' R s')) (λe s'=>R (.error e) s') s) (n:Nat) (h:I n s):cQ M A c R s:=by
 induction n using Nat.strongRecOn generalizing s with
 |ind n ih=>
  refine cT<|b8 (turn n s h) (λfin s' hf=>?_) λz z h'=>h'
  cases fin with
  |done f=>exact hf
  |again c'=>
   rcases hf with⟨rfl,m,hm,hI⟩ |hf
   . exact⟨⟨hq,hd⟩,ih m hm hI⟩
   . exact hf
end
section
variable{M:HO}{A:c5}{E:aG->aE->Prop}{s:aE}{env:DO}{Q:La->aE->Prop}
theorem IH(h:Q .next s):a6 M A (oB [] env) Q E s:=aY h
theorem m5{st:gK}{rest:List gK}(h:a6 M A (exec st env) (λf s'=>match f with |.next=>a6 M A (oB rest env) Q E s' |f=>Q f s') E s):a6 M A (oB (st::rest) env) Q E s:=by
 erw [af (arm_execs_cons _ _ _),aR<|b8 h (λf s' h'=>?_) λz z x=>x];cases f<;>first |exact h' |exact aY h'
theorem O7(h:a6 M A (eval e env) (λv=>Q<|.ret v) E s):a6 M A (exec (.Return (ae e) pos) env) Q E s:=by
 exact af (exec_Return_some _ _ _)<|aR<|fY<|aR<|b8 h (λv s' h'=>aY h') λz z x=>x
theorem VH(h:a6 M A (eval e env) (λv s1=>aC M A (gy env x v) (λz=>Q .next) E s1) E s)(hs:HP e (ae<|.Name x p) pos.line env=cg ao):a6 M A (exec (.Assign [.Name x p] e pos) env) Q E s:=by
 rwa[af (exec_Assign_Name env x p e pos hs),aR<|fY<|aR<|b8 h (λv s' h'=>?_) λz z x=>x,aR<|fY<|bh<|cP (tS h') (λz z q=>aY q) λz z x=>x]
theorem yd{m:qD α}{Q}(h:a6 M A m Q (notedBy M A env E) s):a6 M A (m.onRaise λx=>do qu x env;rD x) Q E s:=
 gH (b8 h (λz z q=>q) λz z hx=>bh<|cP hx (λz z e=>a6.of<|wpAny_theTreesLotGoes e) λz z e=>e)
theorem vV{c:Code}(hc:cQ M A c (λr s'=>match r with |.ok f=>Q f s' |.error e=>T9 M A env E e s') s)(hd:Ab c=ao:=by rfl):a6 M A (runOwn c env aq) Q E s:=by
 unfold runOwn;exact gH<|Ej (E:=T9 M A env E) (h:=aq) hc hd |> λh=>b8 h (λz z q=>q) λz z e=>a6.of e
theorem vW{m:qD α}{Q:α->aE->Prop}(hE:ZM M A env E)(h:a6 M A m Q E s):a6 M A m Q (notedBy M A env<|T9 M A env E) s:=b8 h (λz z q=>q) hE
end
section
open PySem.Spec
theorem y0:xb (⟨.builtin "claim.caller" {},aq,aq,[],aq⟩:PySem.Ctx):=⟨by rfl,λx hx=>by contradiction⟩
theorem vX{M}{A}{Γ}{t}{R}{s}(hin:Γ.In A)(hc:xb Γ)(h:a6 M A t (λfin s'=>∃f,fin= .done f/\R (.ok f) s') (λe s'=>R (.error e) s') s)(p:Pos):wp M Γ t (Sem.finPost M Γ R) (λe z s'=>R (.error e) s') p s:=by
 rwa[ro M Γ t (λfin p' s' h'=>?_) (λz z z h'=>h') p s<|h Γ p hin hc,aK h' λf aH hf=>?_,-h',!aH,hf]
theorem y1{R:zU->aE->Prop}(qe5:s.asleep)(h:a6 (bx prog w) UX t (λfin s'=>∃f,fin= .done f/\(R (.ok f) s'/\B2 s'.gens=ao)) (λe s'=>R (.error e) s'/\B2 s'.gens=ao) s):
 ∃n r s' lP,runN (denote oC) prog w n s ⟨t,.builtin "claim.caller" {},default,[]⟩= .halted (outcomeOf r) s'/\
  schedN (denote oC) prog w n (.single s ⟨t,.builtin "claim.caller" {},default,[]⟩)= .halted (outcomeOf r) s'/\s'.forget=lP.forget/\R r lP:=by
 rwa[Ih (wp_halts_full (M:=bx prog w) (R:=R) qe5<|vX (R:=λr s'=>R r s'/\B2 s'.gens=ao) caller_in y0 h default) λn r s₁ s₂ hs hn U5 hR=>?_,(qa4 n r s₂ s₁ hn hs U5 hR)]
section
variable(c:ClaimW)(s:aE)(args:List WData)(vs:List aG)(s₁ s':aE)(free:br->Prop)
def enD(v:aG):Prop:=∃d ds as bs,ReadsW c.records (oD s.heap) s'.heap v d as/\HQ c.records (oD s.heap) s'.heap vs ds bs/\c.post args d ds=ah/\
 (c.unshared=ah->as.Nodup/\(∀a∈as,s₁.heap.get? a=aq)/\∀a∈as,a∉bs)/\
 (∀Ls,HQ c.records (oD s.heap) s₁.heap vs args Ls->
  c.ident (as.map<|whence s₁.heap Ls<|as++bs) (bs.map<|whence s₁.heap Ls<|as++bs)=ah)
def enB:Prop:=∀i∈c.within,∀v d as,vs[i]? =ae v->ReadsW c.records (oD s.heap) s₁.heap v d as->∀b∈as,∀o,s₁.heap.get? b=ae o->o.dict≠aq->
 ∃o',s'.heap.get? b=ae o'/\o'.cls=o.cls/\o'.dict=o.dict
def enC(b:br)(o:fy):Prop:=(∀i∈c.mutates,vs[i]? =ae (.ref b)->o.dict≠aq)->
 (∀i∈c.within,∀v d as,vs[i]? =ae v->ReadsW c.records (oD s.heap) s₁.heap v d as->b∉as)->UY s₁.heap s'.heap b o
def enR(r:zU):Prop:=(∃v,r= .ok (.ret v)/\(∀cls,c.raises args cls=ao)/\enD c s args vs s₁ s' v/\(∀i,c.same=ae i->vs[i]? =ae v)/\(∀b o,s₁.heap.get? b=ae o->enC c s vs s₁ s' b o)/\enB c s vs s₁ s')\/
 (∃e ob cls,r= .error (.ref e)/\s'.heap.get? e=ae ob/\qE s.heap cls=ae ob.cls/\c.raises args cls=ah/\s₁.heap.get? e=aq/\∀b o,s₁.heap.get? b=ae o->UY s₁.heap s'.heap b o)
def enT(o:Outcome):Prop:=(∃v,o= .done (.ret v)/\(∀cls,c.raises args cls=ao)/\enD c s args vs s₁ s' v/\(∀i,c.same=ae i->vs[i]? =ae v)/\(∀b o,s₁.heap.get? b=ae o->¬free b->enC c s vs s₁ s' b o)/\enB c s vs s₁ s')\/
 (∃e ob cls,o= .uncaught (.ref e)/\s'.heap.get? e=ae ob/\qE s.heap cls=ae ob.cls/\c.raises args cls=ah/\s₁.heap.get? e=aq/\∀b o,s₁.heap.get? b=ae o->¬free b->UY s₁.heap s'.heap b o)
end
theorem Gg{c:ClaimW}{tree:List aG->qD PySem.Fin}(hz:s.asleep)(yP:s.gens= #[])(Z2:∀args,c.pre args=ah->Ld args=ah->
 ∀ord:List zV->List zV,(∀l,(ord l).Perm l)->
 ∃vs s₁,layAllW c.records (oD s.heap) w.params ord args s=ae (vs,s₁)/\
  a6 (bx c.prog w) UX (tree vs) (λfin s'=>∃f,fin= .done f/\(c.Ends s args vs s₁ (.ok f) s'/\s'.os=s.os/\AllBare s'.gens/\kept s'.heap))
   (λe s'=>c.Ends s args vs s₁ (.error e) s'/\s'.os=s.os/\AllBare s'.gens/\kept s'.heap) s₁):
 c.CallFrom (λvs=>⟨tree vs,.builtin "claim.caller" {},default,[]⟩) w free gens kept s:=by
 intro args HE Lu ord OH;show ∃vs s₁,layAllW c.records (oD s.heap) w.params ord args s=ae (vs,s₁)/\∃n o s',schedN (denote oC) c.prog w n (.single s₁ ⟨tree vs,.builtin "claim.caller" {},default,[]⟩)= .halted o s'/\enT c s args vs s₁ s' free o/\(gens->∀(i:Nat) (x:GenState),s.gens[i]? =ae x->s'.gens[i]? =ae x)/\kept s'.heap/\s'.heap.life.seen=s.heap.life.seen/\s'.rest=s.rest;refine n6 (Z2 args HE Lu ord OH) λvs s₁ uG Lv=>?_;have Qs:=layAllW_rest _ _ _ uG
 refine nn λzn=>?_;obtain⟨k,r,s',lP,xZ,Uq,U5,Lw,Lx,OI⟩:=y1 (prog:=c.prog) (w:=w) (t:=tree vs) (s:=s₁)
  (R:=λr s'=>c.Ends s args vs s₁ r s'/\s'.os=s.os/\kept s'.heap)
  (Shared.asleep_of_life Qs.2.2.2 hz)
  (b8 Lv (by
   rintro fin s' ⟨f,e,h1,h2,h3,h4⟩
   exact(oK f e (gp h1 h2 h4)<|Ao h3)) (by
   rintro e s' ⟨h1,h2,h3,h4⟩
   exact⟨(gp h1 h2 h4),Ao h3⟩))
 obtain⟨eh,_,_,eo,_⟩:=Shared.forget_eq U5;erw [zn,-zn];have Lw:enR c s args vs s₁ s' r:=Lw.congr eh;have OI:kept s'.heap:=by first |exact eh▸OI |(rw[eh] at OI;exact OI) |(rw[<-eh] at OI;exact OI)
 rw[<-eo] at Lx;have Ly:s'.heap.life=s.heap.life:=(runN_life _ _ _ xZ).trans Qs.2.2.2;refine⟨vs,s₁,uG,k,_,s',Uq,?_,(λz i x hx=>by rw[yP] at hx;trivial),OI,by(first |exact Ly |exact congrArg _ Ly |exact af Ly rfl),Shared.rest_eq Lx⟩;rcases Lw with⟨v,rfl,d1,d2,d3,d4,d5⟩ |⟨e,ob,cls,rfl,d1,d2,d3,d4,d5⟩
 . exact .inl<|qa2 v rfl d1 d2 d3 (λb o y z=>d4 b o y) d5
 . exact .inr<|qa3 e ob cls rfl d1 d2 d3 d4 λb o y z=>d5 b o y
abbrev II(q:oE)(loose:List bI)(XP:(bI->Option aG)->B3->Prop)(YP:iU->B3->Prop)(r:RowW)(d:DefRec)(kwd:List (bI×Expr)):Prop:=
 ∀(w:iU) (s₀ s₁:aE) (mg mb:bI->Option aG),Ground q loose r.records XP w s₀ mg mb s₁.heap->YP w s₁.heap->∀(a:br) (o:fy) (pm cd doc dV kV:aG),s₁.heap.get? a=ae o->
  o.data= .func {docDef d.name d.params d.body d.scope pm cd doc with defaults:=dV,kwdefaults:=kV}->s₁.heap.CodeRec cd d.name->Dflts mg s₁.heap d.params kwd dV kV->mg d.name=ae (.ref a)->s₁.gens= #[]->
  ∀(args:List WData) (vals:List aG) (as:List br),r.claim.pre args=ah->Ld args=ah->HQ r.records (oD s₀.heap) s₁.heap vals args as->WellAll w.params s₁.heap vals args->(∀a∈as,(a==DR)=ao)->
   a6 (bx r.prog w) UX (PySem.call (.ref a) vals) (λv s'=>GoodWG r.claim (oD s₀.heap) (qE s₀.heap) args s₁ (.ok<|.ret v) s')
    (λe s'=>GoodWG r.claim (oD s₀.heap) (qE s₀.heap) args s₁ (.error e) s') s₁
noncomputable def yQ:fy->Option fy
 |⟨_,_,.freed,_⟩=>aq
 |o=>ae o
theorem sZ(h:B3)(a:br):h.get? a=(h.objs[a]?).bind yQ:=by
 unfold qeU
 cases h.objs[a]? with
 |none=>rfl
 |some o=>
  obtain⟨c,d,dt,sl⟩:=o;cases dt<;>rfl
noncomputable def ta:List fy->Nat->List br->List (Option fy)
 |[],_,as=>as.map λz=>aq
 |_::_,_,[]=>[]
 |o::l,i,a::as=>match b0 a i with
  |true=>yQ o::ta l (i+1) as
  |false=>ta l (i+1)<|a::as
noncomputable def iA:Nat->List br->Bool
 |_,[]=>ah
 |i,a::as=>match c7 i a with |true=>iA (a+1) as |false=>ao
noncomputable def Lz(as:List br)(h:B3):List (Option fy):=match iA 0 as with
 |true=>ta h.objs.toList 0 as
 |false=>as.map h.get?
theorem rH{a:Nat}(h:iA i (a::as)=ah):i<=a/\iA (a+1) as=ah:=by
 unfold iA at h
 cases hb:c7 i a with
 |false=>rw[hb] at h;contradiction
 |true=>rw[hb] at h;exact⟨aa hb,h⟩
theorem CI(h1:i<=a)(h2:iA (a+1) as=ah):iA i (a::as)=ah:=by
 unfold iA;rwa[af (Nat.ble_eq_true_of_le h1),h2]
theorem Gh(b i:Nat)(h:i<b):b-i=(b-(i+1))+1:=by exact‹a+b=c->d+(b+1)==c->a=d+1› (ay<|bM h) (ay h)
theorem VI(a i:Nat)(h:i<=a)(mO:a≠i):i+1<=a:=by lia
theorem vY(f:fy->Option fy)(o:fy)(l:List fy)(i:Nat)(as:List br):∀(k:Nat),iA k as=ah->i<k->as.map (λa=>(l[a-(i+1)]?).bind f)=as.map λa=>((o::l)[a-i]?).bind f:=by
 induction as with
 |nil=>
  intro _ _ _;exact rfl
 |cons b bs ih=>
  intro k hk hik;refine aT (rH hk) λh1 h2=>?_;have hb:i<b:=aJ hik h1;rw[bW,bW,ih (b+1) h2<|mQ hb];have e:b-i=(b-(i+1))+1:=Gh b i hb;rw[e,List.getElem?_cons_succ]
theorem tc:∀(l:List fy) (i:Nat) (as:List br),iA i as=ah->ta l i as=as.map λa=>(l[a-i]?).bind yQ
 |[],i,as,_=>by
  show(as.map λz=>aq)=_;simp
 |o::l,i,[],_=>rfl
 |o::l,i,a::as,h=>by
  refine aT (rH h) λnZ h2=>?_;show(match b0 a i with |true=>yQ o::ta l (i+1) as |false=>ta l (i+1)<|a::as)=_
  cases hq:b0 a i with
  |true=>
   have e:a=i:=bK hq;subst e;dsimp only;rw[tc l (a+1) as h2,vY yQ o l a as (a+1) h2<|bH a,bW,cS];rfl
  |false=>
   have mO:a≠i:=λe=>by rw[e,show b0 i i=ah from ZN i] at hq;contradiction
   have ju:i+1<=a:=VI a i nZ mO;have ha:iA (i+1) (a::as)=ah:=CI ju h2;dsimp only;rw[tc l (i+1) (a::as) ha,vY yQ o l i (a::as) (i+1) ha<|bH i]
theorem Mp(as:List br)(h:B3):Lz as h=as.map h.get?:=by
 unfold Lz
 cases q:iA 0 as with
 |false=>rfl
 |true=>
  dsimp only;erw [af (tc _ _ _ q),List.map_congr_left λa z=>?_];exact af (lI _)<|af (sZ _ _)<|af (Array.getElem?_toList) rfl
namespace Hd
open Internal
theorem hOpen{r:OpenRow}{q:oE}{loose:List bI}{Xt:aE->Bool}{XP:(bI->Option aG)->B3->Prop}{K:cz->qo}{VJ:List br}{ek:∀P,VJ=(K P).map (·.1)}{Yf:aE->List (Option fy)}{Ya:iU->List (Option fy)}{YP:iU->B3->Prop}{d:DefRec}{kwd:List (bI×Expr)}{N:Nat}
 (left:LeftO r.prog q loose Xt (λs=>Lz VJ s.heap) (λw=>(K w.params).map λp=>ae p.2) N) (hY:∀w s,(Ov K VJ ek).obs s=(Ov K VJ ek).val w->YP w s.heap) (hYk:∀w h h',YP w h->(∀b o,h.get? b=ae o->h'.get? b=ae o)->YP w h')
 (hX:∀s,Xt s=ah->XP (s.heap.nsMap eD) s.heap) (hXk:∀mg h h',XP mg h->(∀b o,h.get? b=ae o->h'.get? b=ae o)->XP mg h')
 (Ur:defOf q r.name=ae (d,kwd)) (hp:r.prog.theDef r.name=ae (d.params,d.body,d.scope)) (hk:kwWritten? d.params.kwonlyargs d.params.kw_defaults=ae kwd) (hRf:∀s,Xt s=ah->RecFacts r.records s.heap) (hwr:(!r.writes||r.records.isEmpty)=ah)
 (k1:r.wellSaid=ah) (ok:(chainsOk q&&opensWell r.prog&&(frees r.toRowW&&r.within.isEmpty))=ah) (hb:r.prog.bare) (hw:r.toRowW.promised)
 (i5:II q loose XP YP r.toRowW d kwd):r.Holds:=by
 erw [⟨k1,hw,?_⟩,nn λzn=>?_,aT (aQ.mp ok) λok k5=>?_,aT (aQ.mp ok) λhch o1=>?_,aT (aQ.mp k5) λk5 k6=>?_,Mf (frees_parts k5) λQt hu ha hap hm=>?_,zn,-zn,⟨(gp hb o1<|by erw [(?_:r.toRowW.makers.map _=[]),af hm];rfl),hw.witness,λw=>⟨(left.behind hX hch w).1,λs' Cp=>?_⟩⟩,nn λzn=>?_,dh ((left.behind (XP:=λmg h=>XP mg h/\RecFacts r.records h) (λs hs=>⟨hX s hs,hRf s hs⟩) hch w).2 s' Cp) λs₀ hf hg0 aH=>?_,qbb aH λs hT hz yP hg G00 y=>?_,zn,-zn,-aH];have G0:Ground q loose [] XP w s (s.heap.nsMap eD) (s.heap.nsMap builtinsNs) s.heap:=⟨G00.T,G00.B,G00.D,G00.TE,G00.TD,G00.W,G00.X.1,G00.cls,G00.has,G00.apart,G00.once,G00.K⟩;have RF:=G00.X.2;have hT':=hT;refine⟨s₀,hf,hg0,s,hT,?_,RF.1,RF.2.1,?_⟩
 . intro n hn
   obtain rfl:n=r.name:=by split at hn<;>simp_all
   exact pinned_of_view hg G0 Ur hp hk
 have yP:s.gens= #[]:=Array.eq_empty_of_size_eq_zero<|beq_iff_eq.mp yP;have G:Ground q loose r.records XP w s _ _ s.heap:=RF.ground G0;erw [Gg (c:=r.toRowW.claim) hz yP λargs HE Lu ord OH=>?_,nn λzn=>?_,c4 (mn.mp<|layAllW_isSome (P:=w.params) (ord:=ord) G.has args r.toRowW.args s (pre_splitW HE).1) λaH uG=>?_];obtain⟨vs,s₁⟩:=aH;erw [zn,-zn];have keeps:=layAllW_keeps _ _ _ uG;have Qs:=layAllW_rest _ _ _ uG;erw [nn λzn=>?_,dh (reads_layAllW OH _ _ _ uG Lu s₁.heap λu u e=>e) λas hrd hin hold=>?_];have L:Laid r.records w s s₁ args vs as:=⟨(bV ord OH uG),hrd,hin,hold,keeps,Qs.1.trans yP,Qs.2.2.1⟩;have G₁:=G.keeps hXk keeps;have hYs:=hYk _ _ _ (hY w s<|(Mp VJ s.heap).symm.trans y) keeps;erw [qbf (G₁.fn Ur) λa o pm cd doc dV kV h1 h2 h3 h4 h5=>?_,zn,-zn];have h:=i5 w s s₁ _ _ G₁ hYs a o pm cd doc dV kV h2 h3 h4 h5 (defOf_name Ur▸h1) L.gens args vs as HE Lu L.reads L.well<|L.low G.low;have hi:=ident_freeW hu ha hap;have hwi:r.toRowW.claim.within=[]:=vz.mp k6;erw [(vE vs s₁ uG<|bh<|wpAny_nsGet G₁.T.g ?_),af h1]
 exact aR (b8 h (λv s' g=>aY<|bV _ rfl (have z:=g.laid (c:=r.toRowW.claim) Qt hwi hi L;(mT z.1 z.2.1 z.2.2 λq=>⟨namesKept_of hT' hg _ keeps g.2.1.old,noTable hwr q⟩)))
  λe s' g=>have z:=g.laid (c:=r.toRowW.claim) Qt hwi hi L;(mT z.1 z.2.1 z.2.2 λq=>⟨namesKept_of hT' hg _ keeps g.2.1.old,noTable hwr q⟩))
end Hd
end
noncomputable def LA:List br->Nat->List fy->qo
 |[],_,_=>[]
 |_::_,_,[]=>[]
 |a::as,i,o::l=>match b0 a i with
  |true=>(a,o)::LA as (i+1) l
  |false=>LA (a::as) (i+1) l
noncomputable def y2:List br:=(fc 1266).filter λi=>Nat.testBit 0x37b76ef6edceddbb769fdbb76eddbb76eddbb401fdbb76eddbb76eddbb6036edda7f6eddbb76eddbdbb76803eddbb76eddbb76eddbb76eddbb76813fb76eddbb76eddbb7680dbb76eddb3eddbb76eddbb76ed813fb76eddbb76eddbb76eddbb76eddbb6036eddbb769fdbb76eddbb7007f6eddbb76ed007f6ed01b76eddbb76edda7f6eddbb60369fdbb76ed007da04fb409c09c09c09c09c09fb6076803c i
def K0(P:cz):qo:=LA y2 0<|uu P
def q0:oE:=view pw [87]
noncomputable def td:List bI:=(["_wall","PressError","CutShort","BadCode","BadDistance","BadHeader","BadArgument","BadSize","TooLarge","STATES","LITERAL_STATES","MOST_POSITIONS","START","LEAST_MATCH","MOST_MATCH","LENGTH_STATES","LITERAL_ROW","FIRST_DIRECT","ALIGN_BITS","END_DISTANCE","SHORT_ROW","Cells","fresh","Props","after_literal","after_match","after_rep","after_short","is_after_literal","length_state","slot_base","slot_of","LengthModels","Models","Reps","LOW_LENGTHS","LOW_BITS","HIGH_BITS","SLOT_BITS","FIRST_EXTRA","KIND","read_length","read_distance","read_literal","read_matched","length_of","PacketReader","LzmaReader","KINDS","need_whole","need_number","step_length","repeats","octet_behind","StepCoder","LzmaWriter","Window","MODEL_BITS","TOTAL","LEARN","LEAST_SPAN","MOST_SPAN","CARRY","MAY_CARRY","FLUSHED","next_model","need_bit","need_value","RangeReader","RangeWriter","_law_rows","_law_take","_law_text","_law_models","_law_data","_law_word","_law_stand","_law_closed_right","_law_told","_law_kept"]:List String).map .ofString
noncomputable abbrev xu:OpenRow:=PySem.Challenge.rw_pq1224_01.row
def Xt0(s:aE):Bool:=xlAt q0 [] s&&recOk xu.toRowW.records s
abbrev Se(w:iU)(os:hZ):aE:=(AQ (UG w.params) 1266 1963 os).abs
theorem AU:∀P,y2=(K0 P).map (·.1):=λP=>by kernel_rfl
theorem VK(w:iU)(os:hZ):(staticsOk (qaN pw.main.body) (zX w.params) (Se w os).heap&&namesBound pw (Se w os).heap&&gensDone (Se w os)&&laidKept (zX w.params) (Se w os).heap)=ah:=by kernel_rfl
theorem VL(w:iU)(os:hZ):Lz y2 (Se w os).heap=(K0 w.params).map λp=>ae p.2:=by kernel_rfl
theorem VM(w:iU)(os:hZ):PySem.W.Fast.tw4187177175401517315 q0 td (qaN pw.main.body) Xt0 ah (Se w os)=openGood q0 td:=by kernel_rfl
def Kw(P:cz):qo:=(K0 P).filter λp=> !(b0 p.1 1243||b0 p.1 1262)
noncomputable def O8(K:qo)(e:DE):fy:=match K.lookup e.f with
 |some ⟨oc,od,.func fd,osl⟩=>⟨oc,od,.func<|z3 fd.name e.qual e.params e.body e.scope e.dV fd.kwdefaults fd.doc fd.pyModule fd.annotations (.ref<|e.f-1) fd.closureTuple,osl⟩
 |_=>default
theorem QZ(P:cz):(dT++[uH,sO]).map (λe=>(Kw P).lookup e.f)=(dT++[uH,sO]).map λe=>ae (O8 (Kw P) e):=by kernel_rfl
noncomputable def isF(o:Option fy):Bool:=match o with |some ⟨_,_,.func _,_⟩=>ah |_=>ao
theorem VN(P:cz):(dT++[uH,sO]).all (λe=>isF<|(Kw P).lookup e.f)=ah:=by kernel_rfl
theorem Q0(P:cz):(dT++[uH,sO]).all (λe=>codeIn (Kw P) (.ref<|e.f-1) e.qual&&(!e.scope.isCoroutine&& !e.scope.isGenerator))=ah:=by kernel_rfl
theorem Q3(P:cz):dT.all (λe=>e.scope.names.all λx=> !(x.2== .cell))=ah:=by kernel_rfl
theorem k_meth(P:cz):(ua.map λp=>p.2.map λq=>(plainGet (Kw P) p.1 "",jY (Kw P) (.ref p.1)<|Cy q.1,isFn (Kw P)<|.ref q.2))=ua.map λp=>p.2.map λq=>(ah,ae<|ae<|.ref q.2,ah):=by kernel_rfl
theorem Q4(P:cz):AE.all (UZ<|Kw P)=ah:=by kernel_rfl
theorem Q5(P:cz):(vM.map λe=>T6 (Kw P) eD e.1)=vM.map λe=>ae (ae<|.int e.2.1 e.2.2):=by kernel_rfl
theorem Q6(P:cz):(oQ.map λe=>T6 (Kw P) eD e.1)=oQ.map λe=>ae (ae<|.ref e.2):=by kernel_rfl
theorem Q7(P:cz):(gX.map λe=>T6 (Kw P) eD e.1)=gX.map λe=>ae aq:=by kernel_rfl
theorem Q8(P:cz):(oP.map λe=>(plainGet (Kw P) e.1 "",hasDictIn (Kw P) e.1,plainOver (Kw P) e.1,jY (Kw P) (.ref e.1) "__setattr__",(e.2.map OW).map λx=>jY (Kw P) (.ref e.1) x))=
 oP.map λe=>(ah,ah,ah,ae<|ae<|.builtin "object.__setattr__",(e.2.map OW).map λz=>ae aq):=by kernel_rfl
theorem Mq:oP.all (λe=>decide (e.2.map OW).Nodup)=ah:=by kernel_rfl
theorem Q9(P:cz):(vN.map λe=>(Kw P).lookup e.1)=vN.map λe=>ae {cls:=.type "tuple",data:=.seq e.2.toArray 0}:=by kernel_rfl
theorem k_cls(P:cz):(ub.map λp=>p.2.map λq=>(ZO (Kw P) (.ref p.1) "__getattribute__",readsIn (Kw P) p.1<|.type "type",findCls (Kw P) (.ref p.1) (.type "type")<|Cy q.1))=
 ub.map λp=>p.2.map λq=>(ae<|ae<|.builtin "type.__getattribute__",ah,ae<|.val<|.ref q.2):=by kernel_rfl
noncomputable def noE:List bI:=[ab "reason",ab "kind",ab "size",ab "most"]
theorem k_exc(P:cz):([(100,36),(138,135)].map λ(p:Nat×Nat)=>(jY (Kw P) (.ref p.1) "__init__",isFn (Kw P)<|.ref p.2,jY (Kw P) (.ref p.1) "__setattr__",noE.map<|jY (Kw P)<|.ref p.1))=
 [(100,36),(138,135)].map λ(p:Nat×Nat)=>(ae<|ae<|.ref p.2,ah,ae<|ae<|.builtin "object.__setattr__",noE.map λz=>ae aq):=by kernel_rfl
theorem k_h(P:cz):(jY (Kw P) (.ref 1000) "have",ZO (Kw P) (.ref 948) "__get__",takesIn (Kw P)<|.ref 948,recIn (Kw P) 948 "property")=(ae<|ae<|.ref 948,ae<|ae<|.builtin "property.__get__",ae ah,ae [.ref 947,.none,.none,.none,.str (ab "have") 1502,.bool ao]):=by kernel_rfl
theorem UH(P:cz):(noSeq (Kw P) 178,jY (Kw P) (.ref 178) "__getitem__",fnIn (Kw P) 168,isFn (Kw P)<|.ref 168,jY (Kw P) (.ref 178) "__setitem__",isFn (Kw P)<|.ref 175)=(ah,ae<|ae<|.ref 168,ah,ah,ae<|ae<|.ref 175,ah):=by kernel_rfl
noncomputable def lY(o:Option fy):fy:=o.getD default
noncomputable def FV(o:fy):Array aG:=match o.data with |.fields vs=>vs |_=> #[]
noncomputable def flS(v:aG):bI×Tok:=match v with |.str x t=>(x,t) |_=>(default,0)
noncomputable def flI(v:aG):Int×Tok:=match v with |.int x t=>(x,t) |_=>(0,0)
noncomputable def flB(v:aG):Bool:=match v with |.bool b=>b |_=>ao
noncomputable def O9:List (Nat×Nat):=[(1245,1243),(1264,1262)]
theorem VO(P:cz):(O9.map λp=>((Kw P).lookup p.1,(lY<|(Kw P).lookup p.1).cls,(lY<|(Kw P).lookup p.1).data,(FV<|lY<|(Kw P).lookup p.1)[11]?,(FV<|lY<|(Kw P).lookup p.1).getD 11 .none,(FV<|lY<|(Kw P).lookup p.1).getD 18 .none,(FV<|lY<|(Kw P).lookup p.1).getD 7 .none,(FV<|lY<|(Kw P).lookup p.1).getD 9 .none,(FV<|lY<|(Kw P).lookup p.1).getD 10 .none))=
 O9.map λp=>(ae<|lY<|(Kw P).lookup p.1,.type "code",.fields<|FV<|lY<|(Kw P).lookup p.1,ae<|.ref p.2,.ref p.2,.str (flS<|(FV<|lY<|(Kw P).lookup p.1).getD 18 .none).1 (flS<|(FV<|lY<|(Kw P).lookup p.1).getD 18 .none).2,.int (flI<|(FV<|lY<|(Kw P).lookup p.1).getD 7 .none).1 (flI<|(FV<|lY<|(Kw P).lookup p.1).getD 7 .none).2,
  .bool (flB<|(FV<|lY<|(Kw P).lookup p.1).getD 9 .none),.int (flI<|(FV<|lY<|(Kw P).lookup p.1).getD 10 .none).1 (flI<|(FV<|lY<|(Kw P).lookup p.1).getD 10 .none).2):=by kernel_rfl
theorem qbr(P:cz):(T6 (Kw P) eD "__builtins__",(Kw P).lookup 4,(lY<|(Kw P).lookup 4).cls,(lY<|(Kw P).lookup 4).dict,(lY<|(Kw P).lookup 4).data)=(ae<|ae<|.ref 4,ae<|lY<|(Kw P).lookup 4,.type "module",ae builtinsNs,.plain):=by kernel_rfl
theorem VP(P:cz):∀c∈[100,138],(Kw P).lookup c=ae (exO c):=FL.mpr ⟨by kernel_rfl,FL.mpr ⟨by kernel_rfl,λz h=>nomatch h⟩⟩
theorem rI{α:Type}{β:Type}{f:α->β}{g:α->β}{l:List α}(h:l.map f=l.map g):∀x∈l,f x=g x:=Lb.mp h
theorem Pa{α:Type}{γ:Type}{β:Type}{l:List (α×List γ)}{f:α×List γ->γ->β}{g:α×List γ->γ->β}(h:(l.map λp=>p.2.map<|f p)=l.map λp=>p.2.map<|g p):∀p∈l,∀q∈p.2,f p q=g p q:=λp hp=>rI<|rI h p hp
theorem pr{α:Type}{β:Type}{a:α}{c:α}{b:β}{d:β}(h:(a,b)=(c,d)):a=c/\b=d:=cW h
set_option tactic.hygienic true in
theorem kf0(P:cz):KF (Kw P):=by
 have hd:=rI<|QZ P
 have hc:∀e∈dT++[uH,sO],codeIn (Kw P) (.ref<|e.f-1) e.qual=ah/\e.scope.isCoroutine=ao/\e.scope.isGenerator=ao:=λe he=>by
  have:=a4.mp (Q0 P) e he;simp only[bG,dC] at this;exact(gp this.1 this.2.1 this.2.2)
 have there:∀e∈dT++[uH,sO],∃oc od name kV doc pm an ct osl,(Kw P).lookup e.f=ae ⟨oc,od,.func<|z3 name e.qual e.params e.body e.scope e.dV kV doc pm an (.ref<|e.f-1) ct,osl⟩:=λe he=>by
  have h:=hd e he;have hf:=a4.mp (VN P) e he;unfold O8 at h
  split at h
  . exact(qa8 _ _ _ _ _ _ _ _ _ h)
  . rename_i q
    unfold isF at hf
    split at hf
    . rename_i e1
      exact absurd e1<|q _ _ _ _
    . contradiction
 refine{OZ:=λe he=>⟨there e<|bB _ he,(hc e<|bB _ he).1,λx hx=>?_,(hc e<|bB _ he).2.1,(hc e<|bB _ he).2.2⟩,
        Iw:=λe he=>⟨there e<|a5 _ he,(hc e<|a5 _ he).1,(hc e<|a5 _ he).2.1,(hc e<|a5 _ he).2.2⟩,
        Iy:=λp hp q hq=>?_,CA:=a4.mp<|Q4 P,O0:=rI<|Q5 P,vO:=rI<|Q6 P,O1:=rI<|Q7 P,O2:=λe he=>?_,rG:=rI<|Q9 P,QO:=λp hp q hq=>?_,yY:=?_,QP:=λp hp hH X=>?_,kBm:=?_,
        h1:=(pr<|k_h P).1,h2:=(pr (pr<|k_h P).2).1,h3:=(pr (pr (pr<|k_h P).2).2).1,h4:=(pr (pr (pr<|k_h P).2).2).2,
        AH:=(pr<|UH P).1,AI:=(pr (pr<|UH P).2).1,AJ:=(pr (pr (pr<|UH P).2).2).1,AK:=(pr (pr (pr (pr<|UH P).2).2).2).1,AL:=(pr (pr (pr (pr (pr<|UH P).2).2).2).2).1,AM:=(pr (pr (pr (pr (pr<|UH P).2).2).2).2).2}
 . have:=a4.mp (a4.mp (Q3 P) e he) x hx
   simpa using this
 . refine nn λzn=>?_;refine aT (pr<|Pa (k_meth P) p hp q hq) λa b=>?_
   rwa[aT (pr b) λb c=>?_,zn,-zn,⟨a,b,c⟩]
 . refine nn λzn=>?_;refine aT (pr<|rI (Q8 P) e he) λa b=>?_
   rwa[aT (pr b) λb c=>?_,aT (pr c) λc d=>?_,aT (pr d) λd f=>?_,zn,-zn,⟨a,b,c,d,of_decide_eq_true<|a4.mp Mq e he,rI f⟩]
 . refine nn λzn=>?_;refine aT (pr<|Pa (k_cls P) p hp q hq) λa b=>?_
   rwa[aT (pr b) λb c=>?_,zn,-zn,⟨a,b,c⟩]
 . have h1:=rI (k_exc P) _ (.head _)
   have h2:=rI (k_exc P) _<|.tail _<|.head _;rwa[nn λzn=>?_,aT (pr h1) λa1 b1=>?_,aT (pr b1) λb1 c1=>?_,aT (pr c1) λc1 d1=>?_,aT (pr h2) λa2 b2=>?_,aT (pr b2) λb2 c2=>?_,aT (pr c2) λc2 d2=>?_,zn,-zn,⟨⟨VP P _<|.head _,a1,b1,c1,rI d1⟩,⟨VP P _<|.tail _<|.head _,a2,b2,c2,rI d2⟩⟩]
 . refine nn λzn=>?_;refine aT (pr<|rI (VO P) p hp) λa b=>?_
   rwa[aT (pr b) λb c=>?_,aT (pr c) λc d=>?_,aT (pr d) λd f=>?_,aT (pr f) λf g=>?_,aT (pr g) λg h=>?_,aT (pr h) λh i=>?_,aT (pr i) λi j=>?_,zn,-zn,⟨_,_,_,_,_,_,_,_,_,X _ _ a,b,c,d,f,g,h,i,j,(by decide:∀p∈[((1245:Nat),(1243:Nat)),(1264,1262)],p.1≠p.2) p hp⟩]
 . refine nn λzn=>?_;refine aT (pr<|qbr P) λa b=>?_
   rwa[aT (pr b) λb c=>?_,aT (pr c) λc d=>?_,aT (pr d) λd f=>?_,zn,-zn,(QA 4 _ a (by decide) (by decide) b c d f)]
theorem VQ:LeftO xu.prog q0 td Xt0 (λs=>Lz y2 s.heap) (λw=>(K0 w.params).map λp=>ae p.2) 20000:=by
 erw [aK qbq λM hr hM=>?_,LeftO.of_pieces (H₀:=zX) (H₁:=λP=>absHeap (UG P) 1266 lf0) (gs₀:=Oq []) (gs₁:= #[]) (d₀:=T8) (d₁:={}) (k₁:=1963) (k₀:=ZK) (m₀:=11) (ann:=ae<|.ref 6) (M:=M) (boot_open rfl (by decide+kernel) λs=>rfl) (λw=>by kernel_rfl) hr hM λw=>?_]
 funext os
 rwa[qfe (VK w os)<|qfe ?_<|VL w os,af PySem.W.Fast.te4187177175401517315,VM w os]
noncomputable def d0:DefRec:=⟨"law",sO.params,sO.body,sO.scope,⟨947,0,969,15⟩⟩
theorem VR(said:xu.wellSaid=ah)(hw:xu.toRowW.promised)(i5:II q0 td (XL q0 []) (λw h=>(K0 w.params).In h) xu.toRowW d0 []):xu.Holds:=
 Hd.hOpen (q:=q0) (loose:=td) (Xt:=Xt0) (XP:=XL q0 []) (Yf:=Hook.obs<|Ov K0 y2 AU) (Ya:=Hook.val<|Ov K0 y2 AU) (YP:=Hook.says<|Ov K0 y2 AU) (N:=20000) VQ (Hook.of<|Ov K0 y2 AU) (Hook.keeps<|Ov K0 y2 AU) (λs e=>xl_of s (aQ.mp e).1) XL.keeps (by kernel_rfl) (by kernel_rfl) (by kernel_rfl) (λs e=>recFacts_of (aQ.mp e).2) (by rfl) said (by decide+kernel) ⟨rfl,rfl,rfl,rfl,rfl,by decide+kernel⟩ hw i5
section
open Lean
theorem Ek:PySem.Challenge.rw_pq1224_01.wellSaid=ah:=by
 have k:PySem.W.Fast.tw9446332074065402090 PySem.Challenge.rw_pq1224_01=ah:=by kernel_rfl
 rwa[af PySem.W.Fast.te9446332074065402090,k]
theorem VS(h:PySem.Challenge.rw_pq1224_01.row.Holds):PySem.Challenge.rw_pq1224_01.Holds:=⟨Ek,h⟩
end
theorem vZ{A:c5}{s:aE}{prog:oE}{w:iU}{R:zU->aE->Prop}{body:List gK}{env:DO}(h:a6 (bx prog w) (A.deeper env) (oB body env) (λf s'=>R (.ok<|.ret<|match f with |.ret v=>v |_=>.none) s')
 (λe s'=>aC (bx prog w) (A.deeper env) (leaving env e) (λz lP=>R (.error e) lP) (λe' lP=>R (.error e') lP) s') s):
 cQ (bx prog w) A (.func body env) R s:=by
 erw [cT,(?_:a6 _ (A.deeper env) (do point;match<-(oB body env).onRaise (leaving env) with |.ret v=>ret v |_=>ret .none) _ _ s),aR<|my<|aR<|gH<|b8 h (λf s' h'=>?_) λz z h'=>a6.of h'];cases f<;>exact aY h'
theorem j9(qF:A.depth<qeV)(ho:s.heap.get? a=ae o)(D2:o.data= .func fd)(hco:fd.scope.isCoroutine=ao)(Us:fd.scope.isGenerator=ao)(LB:fd.body= .stmts body)(LC:s.heap.CodeRec fd.code fd.qualname)(h:aC (bx prog w) A.in1 (qv fd args) (λbinds s₁=>
 aC (bx prog w) A.in1 (eE fd.scope fd.globals fd.closure binds (fd.qualname++".<locals>.") (ae a) fd.code aq fd.builtins)
  (λenv s₂=>s₂.heap.NoLimit/\cQ (bx prog w) A (.func body env) R s₂) (λe s'=>R (.error e) s') s₁) (λe s'=>R (.error e) s') s):
 cQ (bx prog w) A (.call (.ref a) args) R s:=by
 erw [cT<|a6.of ?_,(?_:aC _ A.in1 (Ck (.ref a) args) _ _ s)];simp only[Ck];erw [ak<|rp ho ?_,Ih LC λc oc vs tq hc L7 U6 hq=>?_,-LC];simp only[D2,callFunction,hco,Us,LB,hc];rw[hc] at h;refine ak (m:=U0 (.ref c) 1)<|oF L7 U6 hq<|ak<|au ?_
 exact ak<|cP h (λbinds s₁ h₁=>ak<|cP h₁ (λenv s₂ h₂=>ak (ZP h₂.1 qF
  (au ⟨⟨rfl,rfl⟩,h₂.2⟩))) λz z h'=>h') λz z h'=>h'
theorem jy{C}{A}{K}{s}{l}{f}{qual}{params}{body}{scope}{dV}{cdv}{args}{binds}{rest}{ns}{gs}{vs}{n}{R}(G:Gl C K)(D:Io K f qual params body scope dV cdv)(rm:Rm C A (n+1))(sc:mr scope ns gs)(pM:∀name kV doc pm an ct,U1 s (z3 name qual params body scope dV kV doc pm an cdv ct) args binds)(Ut:ns=binds.map (·.1)++rest)(HW:vs=start binds rest)(H:Sat C l s)(h:∀L s1,Sat (C.push L) (ml L ns vs::l) s1->Rm (C.push L) (A.deeper<|eo qual scope L f cdv []) n->Gl (C.push L) K->
 a6 (bx (C.push L).prog (C.push L).w) (A.deeper<|eo qual scope L f cdv []) (oB body<|eo qual scope L f cdv []) (λfl s'=>R (.ok<|.ret<|match fl with |.ret v=>v |_=>.none) s')
  (λe s'=>aC (bx (C.push L).prog (C.push L).w) (A.deeper<|eo qual scope L f cdv []) (leaving (eo qual scope L f cdv []) e) (λz lP=>R (.error e) lP) (λe' lP=>R (.error e') lP) s') s1):
 cQ (bx C.prog C.w) A (.call (.ref f) args) R s:=by
 rwa[nn λzn=>?_,Ij D.there λoc od name kV doc pm an ct osl ho=>?_,yX G.top λp loose mg mb T=>?_,zn,-zn,!Ut,!HW,j9 (fd:=z3 name qual params body scope dV kV doc pm an cdv ct) (by have:=rm.depth;exact‹a+2*(b+1)<c->a<c› this) (G.X H _ _ ho) rfl D.co D.gen rfl (codeRec_of (G.X H) D.code),(pM _ _ _ _ _ _) _ _ _ _,vJ H sc.kind D.cells (λx hx=>sc.locals _<|bB _<|List.mem_map_of_mem hx) sc.nodup λL s1 H1=>⟨T.nolimit.keeps H1.stays,vZ ?_⟩,h L s1 (H1.push H1.Il H1.QI) (rm.deeper sc.kind)<|G.push L]
section
variable{C:Cx}{A:c5}{s:aE}{env:DO}{vs:List (Option aG)}{x:bI}{E:aG->aE->Prop}{e:Expr}{es:List Expr}{pos p:Pos}
noncomputable abbrev bc(C:Cx):HO:=bx C.prog C.w
theorem rJ(h:Q [] s):a6 (bc C) A (uy<|fD pos<|de [] env) Q E s:=a6.of<|spliced_nil h
theorem kG(h:a6 (bc C) A (eval e env) (λv s1=>a6 (bc C) A (uy<|fD pos<|de es env) (λvs s2=>Q (v::vs) s2) E s1) E s)(he:fD pos (de (e::es) env)=(ao,eval e env)::fD pos (de es env):=by rfl):a6 (bc C) A (uy<|fD pos<|de (e::es) env) Q E s:=by
 rw[he,uy];refine aR<|b8 h (λv s₁ h₁=>?_) λz z x=>x;simp only[bE,if_false];exact aR<|aY<|aR<|bJ<|b8 h₁ (λvs s₂ h₂=>aY h₂) λz z x=>x
theorem kA(he:∀e∈es,∀x p,e≠ .Starred x p){fv}{Q}(h:a6 (bc C) A (uy<|fD pos<|de es env) (λvs s'=>Q ⟨vs,[]⟩ s') E s):
 a6 (bc C) A (xQ fv ah (fD pos<|de es env) []) Q E s:=by
 cases es with
 |nil=>exact aR (m:=uy []) (f:=_)<|b8 h (λvs s' h'=>a6.of<|ak<|au<|cL<|ak<|au<|ak<|au<|au h') λz z x=>x
 |cons e es=>
  have:fD pos (de (e::es) env)=(ao,eval e env)::fD pos (de es env):=by
   cases e<;>first |rfl |exact absurd rfl<|he _ (.head _) _ _
  rw[this] at h |-;generalize eval e env=x0 at*;generalize fD pos (de es env)=r0 at*;unfold xQ;rwa[(?_:a6 (bc C) A (uy ((ao,x0)::r0)>>=_) Q E s),aR<|b8 h (λvs s' h'=>?_) λz z x=>x,a6.of<|cL<|ak<|au<|ak<|au<|au h']
theorem v5(h:a6 (bc C) A (xQ (.ref f) ah args []) (λx s₁=>(s₁.heap.get? f=ae ob/\ob.data= .func fd)/\a6 (bc C) A (i5 (.ref f) (first++x.pos) x.kw) Q E s₁) E s):
 a6 (bc C) A (jc pos (.ref f) first args []) Q E s:=by
 unfold jc;refine aR<|bJ<|b8 h (λx s₁ h₁=>aR<|fY ?_) λz z x=>x
 have tail:∀{t:qD aG},a6 (bc C) A t Q E s₁->a6 (bc C) A (t>>=λr=>iO [r] point>>=λz=>cg r) Q E s₁:=
  λht=>aR<|b8 ht (λr s₂ hr=>aR<|bJ<|my<|aY hr) λz z x=>x
 cases hs:args.any (·.1)<;>simp only[Cm,Ap]<;>
  refine aR (m:=Ow<|.ref f) (a6.of ?_)<;>unfold Ow<;>
  refine ak (rp h₁.1.1 ?_)<;>(refine af h₁.1.2 ?_)<;>refine au ?_
 . dsimp only
   split
   . exact tail h₁.2
   . exact tail (by unfold Ua;exact vU h₁.2)
 . exact tail (by unfold Ua;exact vU h₁.2)
theorem jF(hfv:∀a,fv≠ .ref a)(Uu:args.any (·.1)=ao)(h:a6 (bc C) A (xQ fv ah args []) (λa s₁=>a6 (bc C) A (i5 fv (first++a.pos) a.kw) Q E s₁) E s):a6 (bc C) A (jc pos fv first args []) Q E s:=by
 unfold jc;refine aR<|bJ<|b8 h (λa s₁ h₁=>aR<|fY ?_) λz z x=>x;simp only[Uu,Cm,Ap];have hk:Ow fv=cg .machine:=by cases fv<;>first |rfl |exact absurd rfl<|hfv _
 rwa[af hk,aR<|aY ?_,aR<|b8 h₁ (λr s₂ hr=>aR<|bJ<|my<|aY hr) λz z x=>x]
end
theorem y3{id}(h:Ub T name id)(hT:s.TypeIs self T)(hb:iG oC id=ae b)(hd:∀args,Ab (.builtin id args)=ao)(hc:a6 (bx prog w) A.in1 (b ⟨self::rest,[]⟩) (λfin s'=>∃v,fin= .done (.ret v)/\Q v s') E s)(ha:nC id ⟨self::rest,[]⟩:=by rfl):a6 (bx prog w) A (i5 (.builtin id)<|self::rest) Q E s:=by
 rwa[eK<|cT ?_,(?_:a6 _ A.in1 (do eu id ⟨self::rest,[]⟩;again (.builtin id ⟨self::rest,[]⟩)) _ _ s),bh<|h.check _ _ _ _ _ _ _ _ hT ha<|aY ⟨⟨vA h.plain _,hd _⟩,cT ?_⟩,af (jH h.plain _),(?_:a6 _ _ (match iG oC id with |some b=>b ⟨self::rest,[]⟩ |none=>jx<|(qeW id "#data").getD id) _ _ s),af hb,b8 hc (λfin s' h'=>?_) λz z h'=>h',aK h' λv aH hv=>?_,-h',!aH,hv]
theorem Ra{id}(hd:Ab (.builtin id args)=ao)(hx:Ab (.builtin x args)=ah):¬id=x:=λe=>by rw[e,hx] at hd;contradiction
theorem rK{c}[Decidable c]{t}{e}(n:¬c)(h:e n=ao):dite c t e=ao:=(dif_neg n).trans h
open Builtin Builtin.Bytes in
theorem rL{prog:oE}{w:iU}{A:c5}{E:aG->aE->Prop}{s:aE}{self}{Q}(h:Q ao s):a6 (bx prog w) A (qfb self) Q E s:=λΓ p hΓ hc=>by
 unfold qfb;refine(?_:Q (((Γ.code,p)::Γ.below).any _) s);rw[ux.mpr ?_]
 . exact h
 intro x hx
 have hd:Ab x.1=ao:=by
  rcases aV.mp hx with e |hx
  . rwa[!e,hc.1]
  . exact hc.2 _ hx
 clear hx;obtain⟨c,p⟩:=x;erw [af (vB _)]
 cases c with
 |builtin id args=>
  obtain⟨pos,kw⟩:=args;have n {x:String} {ar:Args} (hx:Ab (.builtin x ar)=ah):¬id=x:=Ra hd hx;unfold exported.match_1;delta exported._sparseCasesOn_1;dsimp only;refine rK (n (x:="bytearray.__contains__") (ar:=⟨[],[]⟩) rfl)<|rK (n (x:="bytearray.__mod__") (ar:=⟨[],[]⟩) rfl)<|rK (n (x:="bytearray.__rmod__") (ar:=⟨[],[]⟩) rfl)<|rK (n (x:="_struct.pack_into.held") (ar:=⟨[],[]⟩) rfl)<|rK (n (x:="bytearray.find.held") (ar:=⟨[],[]⟩) rfl) ?_;cases pos
  . rfl
  . exact(congrArg _ (FN.mp hd).1).trans<|yO _
 |_=>rfl
theorem mz{t:qD α}{r:α}{Q:α->aE->Prop}(x:dA M s.heap t r)(q:Q r s):a6 M A t Q E s:=a6.of<|x.here q
theorem m6(h:cQ M A c R s)(k:∀r s,R r s->R' r s):cQ M A c R' s:=λΓ p hc hΓ AS=>wpCode_mono k<|h Γ p hc hΓ AS
theorem gv{A:c5}{prog:oE}{w:iU}{R:zU->aE->Prop}{id}{args}{b}{s}(hb:iG oC id=ae b)(h:a6 (bx prog w) (A.under<|.builtin id args) (b args)
 (λfin s'=>match fin with |.done f=>R (.ok f) s' |.again c'=>(c'.quiet=ah/\Ab c'=ao)/\cQ (bx prog w) A c' R s') (λe s'=>R (.error e) s') s):
 cQ (bx prog w) A (.builtin id args) R s:=by
 rwa[cT,(?_:a6 _ _ (match iG oC id with |some b=>b args |none=>jx<|(qeW id "#data").getD id) _ _ s),af hb,h]
theorem iE{id}(hq:(gw id args).quiet=ah)(hd:Ab (.builtin id args)=ao)(h:aC (bx prog w) A.in1 (eu id args) (λz s₁=>cQ (bx prog w) A (.builtin id args) R s₁) (λe s'=>R (.error e) s') s):cQ (bx prog w) A (.call (.builtin id) args) R s:=by
 rwa[cT,(?_:a6 _ A.in1 (do eu id args;again (.builtin id args)) _ _ s),bh<|cP h (λz s₁ h₁=>aY ⟨⟨hq,hd⟩,h₁⟩) λz z h'=>h']
theorem qS{id}(h:(qt.contains id||["bytearray.__contains__","bytearray.__mod__","bytearray.__rmod__","_struct.pack_into.held","bytearray.find.held"].contains id)=ao)(args:Args):Ab (.builtin id args)=ao:=h
theorem CJ{os:hZ}(Y:Makes (bx prog w) h C)(hi:dA (bx prog w) h (cD (.ref C) "__init__") (ae init))(hb:∀self,dA (bx prog w) h (bindSpecial init self) (init,[self]))(mO:(ae init !=ae (Value.builtin "object.__init__"))=ah)(hq:cQ (bx prog w) (A.under<|.builtin "type.__call__" ⟨.ref C::rest,[]⟩) (.call init ⟨.ref (h.objs.size+1)::rest,[]⟩) (DT (h.objs.size+1) R) ⟨(h.push gA).push<|hV C h.objs.size,g,d,t,os⟩):
 cQ (bx prog w) A (.call (.ref C) ⟨rest,[]⟩) R ⟨h,g,d,t,os⟩:=by
 have Y':=Y;obtain⟨⟨oc,od,cd,sl,hC,e1,e2,e4⟩,made,base,self,top,i5,typ⟩:=Y;erw [cT<|a6.of ?_,(?_:aC _ _ (Ck (.ref C) _) _ _ _),nd_load hC,(?_:aC _ _ (lT (.ref C) _) _ _ _)];unfold lT;refine ak<|i5.at ?_;dsimp only;erw [af (tc_bind _),ak<|au<|ak<|au ?_,au (a:=Fin.again<|.call (.builtin "type.__call__") ⟨.ref C::rest,[]⟩)<|w8 ⟨rfl,rfl⟩ ?_];have hqt:(gw "type.__call__" ⟨.ref C::rest,[]⟩).quiet=ah:=iV _ (by decide+kernel);have hdt:Ab (gw "type.__call__" ⟨.ref C::rest,[]⟩)=ao:=qS (by rfl) _;erw [iE hqt hdt];have htc:=tc_args (.ref C) rest [];have Rb:dA (bx prog w) (⟨h,g,d,t,os⟩:aE).heap (iH (.ref C)<|.type "type") ah:=typ
 with_reducible refine Uc (i:="type.__call__") (owner:="type") (n:="__call__") tc_kind tc_split Rb htc ?_
 erw [gv qeX];have hm:dA (bx prog w) h (xR<|.ref C) cd.mro:=((fV (part:=aq) hC).andThen .now).andThen .now;erw [(?_:a6 _ _ (xR (.ref C)>>=_) _ _ _),aR<|mz hm ?_];simp only[e4,bE,if_false];refine aR<|mz made ?_;dsimp only;erw [aR<|aY ?_,bh<|cL<|DU<|new_K Y' hi (.inl mO) ?_];have k:∀b o,h.get? b=ae o->((h.push gA).push<|hV C h.objs.size).get? b=ae o:=λb o e=>cH _<|cH _ e
 have hx:((h.push gA).push<|hV C h.objs.size).get? (h.objs.size+1)=ae (hV C h.objs.size):=by
  have:=rC (o:=hV C h.objs.size) (h.push gA) rfl;rw[lU] at this;exact this
 have t1:dA (bx prog w) ((h.push gA).push<|hV C h.objs.size) (nD<|.ref<|h.objs.size+1) (.ref C):=(fV hx).andThen .now;have s1:=self.keeps k;have i1:=hi.keeps k;have b1:=(hb<|.ref<|h.objs.size+1).keeps k;have n1:dA (bx prog w) ((h.push gA).push<|hV C h.objs.size) (iH (.ref<|h.objs.size+1)<|.ref C) ah:=t1.andThen s1;erw [(?_:a6 _ _ (iH _ _>>=_) _ _ _),aR<|mz n1 ?_];simp only[sG,bE,if_false];refine aR<|bJ ?_;have sp:dA (bx prog w) ((h.push gA).push<|hV C h.objs.size) (fQ (.ref<|h.objs.size+1) "__init__") (ae init):=t1.andThen i1;unfold rq;refine aR<|mz sp ?_;dsimp only;erw [bJ<|aR<|mz b1<|aR ?_,eK<|m6 hq λr s' z=>?_];rcases r with e |(v |_ |_ |_)<;>first |exact z |exact z.elim |skip
 obtain⟨rfl,z⟩:=z;exact aY<|aY z
section
variable{α β:Type}{m:qD α}{f:α->qD β}{Q:β->aE->Prop}{Q1:α->aE->Prop}
theorem pB{a}(h:aC M A (f a) Q E s):aC M A (cg a>>=f) Q E s:=ak<|au h
theorem mB(h:aC M A m Q1 E s)(j:∀a s,Q1 a s->aC M A (f a) Q E s):aC M A (m>>=f) Q E s:=ak<|cP h j λz z x=>x
theorem mE{Q2}(h:aC M A m Q1 E s)(j:∀a s,Q1 a s->Q2 a s):aC M A m Q2 E s:=cP h j λz z x=>x
theorem rB{f}(h:aC M A (f ()) Q E s):aC M A (rule tag>>=f) Q E s:=ak<|DS h
theorem CK(h:aC M A m (λa s=>aC M A (f a) Q E s) E s):aC M A (iO vs m>>=f) Q E s:=ak<|cL h
theorem lB{f}(e:s.heap.get? a=ae o)(h:aC M A (f o) Q E s):aC M A (load a>>=f) Q E s:=ak<|rp e h
theorem Mr{f}(e:s.heap.get? a=ae o)(e2:o.data= .fields vs)(e3:vs[i]? =ae x)(h:aC M A (f x) Q E s):aC M A (U0 (.ref a) i>>=f) Q E s:=ak<|oF e e2 e3 h
theorem sB{f}(e:s.TypeIs v T)(e2:cD (.type T) name=cg r)(h:aC M A (f r) Q E s):aC M A (fQ v name>>=f) Q E s:=ak<|B4 e e2 h
theorem aB{g:α->qD γ}{k:γ->qD β}(h:aC M A m (λa s=>aC M A (g a) (λb s=>aC M A (k b) Q E s) E s) E s):aC M A (m>>=g>>=k) Q E s:=ak<|ak h
theorem pC{a}(h:a6 M A (f a) Q E s):a6 M A (cg a>>=f) Q E s:=aR<|aY h
theorem mC(h:a6 M A m Q1 E s)(j:∀a s,Q1 a s->a6 M A (f a) Q E s):a6 M A (m>>=f) Q E s:=aR<|b8 h j λz z x=>x
theorem Pb{Q2}(h:a6 M A m Q1 E s)(j:∀a s,Q1 a s->Q2 a s):a6 M A m Q2 E s:=b8 h j λz z x=>x
theorem ou{f}(h:a6 M A (f ()) Q E s):a6 M A (mL pos>>=f) Q E s:=aR<|fY h
theorem Qu(h:a6 M A m (λa s=>a6 M A (f a) Q E s) E s):a6 M A (iO vs m>>=f) Q E s:=aR<|bJ h
theorem IJ(h:a6 M A m Q1 E s)(j:∀a s,Q1 a s->a6 M A (f a) Q E s):a6 M A (iO vs m>>=f) Q E s:=aR<|bJ<|b8 h j λz z x=>x
theorem VT{r}(x:dA M s.heap m r)(h:a6 M A (f r) Q E s):a6 M A (m>>=f) Q E s:=aR<|mz x h
end
theorem jz:PlainAttrs "bytearray":=
 ⟨(bV ("bytearray.__getattribute__") (by rwa[af (bC _ _)<|af a0 ?_,_])<|by rfl),by rwa[af (bC _ _)<|af a0 ?_,_]⟩
theorem gr:Manifest.owners.lookup (String.ofList ['y', 'a', 'r', 'r', 'a', 'e', 't', 'y', 'b'].reverse)=ae Manifest.sig_bytearray:=by kernel_rfl
theorem je:Ub "bytearray" "append" "bytearray.append":=
 .of (owner:="bytearray") (n:="append") (by refine af (bC _ _)<|af a0 ?_;kernel_rfl) (by rfl) (by rfl) (by rfl)
  (by first |exact .inl (by decide+kernel) |exact .inr<|by rfl) (by refine af (eF _ _) ?_;kernel_rfl)
theorem m7:iG oC "bytearray.append"=ae dr.«bytearray.append»:=fw (by kernel_rfl)
theorem n7(a b:aG):nC "bytearray.append" ⟨[a,b],[]⟩:=by
 unfold nC;rwa[af (lC (id:="bytearray.append") (n:=['d', 'n', 'e', 'p', 'p', 'a']) (o:=['y', 'a', 'r', 'r', 'a', 'e', 't', 'y', 'b']) (by kernel_rfl) gr) ?_,_]
theorem n8:nD (.builtin "bytearray.append")=cg (.type "method_descriptor"):=by rwa[(?_:builtinType _=_),af Qh,_]
theorem jf:Ub "bytearray" "extend" "bytearray.extend":=
 .of (owner:="bytearray") (n:="extend") (by refine af (bC _ _)<|af a0 ?_;kernel_rfl) (by rfl) (by rfl) (by rfl)
  (by first |exact .inl (by decide+kernel) |exact .inr<|by rfl) (by refine af (eF _ _) ?_;kernel_rfl)
theorem m8:iG oC "bytearray.extend"=ae dr.«bytearray.extend»:=fw (by kernel_rfl)
theorem n9(a b:aG):nC "bytearray.extend" ⟨[a,b],[]⟩:=by
 unfold nC;rwa[af (lC (id:="bytearray.extend") (n:=['d', 'n', 'e', 't', 'x', 'e']) (o:=['y', 'a', 'r', 'r', 'a', 'e', 't', 'y', 'b']) (by kernel_rfl) gr) ?_,_]
theorem oa:nD (.builtin "bytearray.extend")=cg (.type "method_descriptor"):=by rwa[(?_:builtinType _=_),af Qh,_]
theorem kH:Ub "bytearray" "__len__" "bytearray.__len__":=
 .of (owner:="bytearray") (n:="__len__") (by refine af (bC _ _)<|af a0 ?_;kernel_rfl) (by rfl) (by rfl) (by rfl)
  (by first |exact .inl (by rfl) |exact .inr<|by decide+kernel) (by refine af (eF _ _) ?_;kernel_rfl)
theorem qf:iG oC "bytearray.__len__"=ae dr.«bytearray.__len__»:=fw (by kernel_rfl)
theorem qT(a:aG):nC "bytearray.__len__" ⟨[a],[]⟩:=by
 unfold nC;rwa[af (lC (id:="bytearray.__len__") (n:=['_', '_', 'n', 'e', 'l', '_', '_']) (o:=['y', 'a', 'r', 'r', 'a', 'e', 't', 'y', 'b']) (by kernel_rfl) gr) ?_,_]
theorem gb:Ub "bytearray" "__getitem__" "bytearray.__getitem__":=
 .of (owner:="bytearray") (n:="__getitem__") (by refine af (bC _ _)<|af a0 ?_;kernel_rfl) (by rfl) (by rfl) (by rfl)
  (by first |exact .inl (by rfl) |exact .inr<|by decide+kernel) (by refine af (eF _ _) ?_;kernel_rfl)
theorem mA:iG oC "bytearray.__getitem__"=ae dr.«bytearray.__getitem__»:=fw (by kernel_rfl)
theorem m9(a b:aG):nC "bytearray.__getitem__" ⟨[a,b],[]⟩:=by
 unfold nC;rwa[af (lC (id:="bytearray.__getitem__") (n:=['_', '_', 'm', 'e', 't', 'i', 't', 'e', 'g', '_', '_']) (o:=['y', 'a', 'r', 'r', 'a', 'e', 't', 'y', 'b']) (by kernel_rfl) gr) ?_,_]
theorem fG:Ub "bytearray" "__init__" "bytearray.__init__":=
 .of (owner:="bytearray") (n:="__init__") (by refine af (bC _ _)<|af a0 ?_;kernel_rfl) (by rfl) (by rfl) (by rfl)
  (by first |exact .inl (by rfl) |exact .inr<|by decide+kernel) (by refine af (eF _ _) ?_;kernel_rfl)
theorem oS:iG oC "bytearray.__init__"=ae dr.«bytearray.__init__»:=fw (by kernel_rfl)
theorem qg(a:aG):nC "bytearray.__init__" ⟨[a],[]⟩:=by
 unfold nC;rwa[af (lC (id:="bytearray.__init__") (n:=['_', '_', 't', 'i', 'n', 'i', '_', '_']) (o:=['y', 'a', 'r', 'r', 'a', 'e', 't', 'y', 'b']) (by kernel_rfl) gr) ?_,_]
theorem kI:Ub "bytes" "__mul__" "bytes.__mul__":=
 .of (owner:="bytes") (n:="__mul__") (by refine af (bC _ _)<|af a0 ?_;kernel_rfl) (by rfl) (by rfl) (by rfl)
  (by first |exact .inl (by rfl) |exact .inr<|by decide+kernel) (by refine af (eF _ _) ?_;kernel_rfl)
theorem uI:iG oC "bytes.__mul__"=ae dr.«bytes.__mul__»:=fw (by kernel_rfl)
theorem v7(a b:aG):nC "bytes.__mul__" ⟨[a,b],[]⟩:=by
 unfold nC;rwa[af (lC (id:="bytes.__mul__") (n:=['_', '_', 'l', 'u', 'm', '_', '_']) (o:=['s', 'e', 't', 'y', 'b']) (by kernel_rfl) FB.owner_bytes) ?_,_]
noncomputable abbrev oT(bs:List UInt8):fy:={cls:=.type "bytearray",data:=.bytearray bs.toArray 0}
def BA(a:br)(bs:List UInt8):bp:=pt a<|oT bs
section
variable{A:c5}{s:aE}{a:br}{bs:List UInt8}{E:aG->aE->Prop}
theorem Sat.ba(H:Sat C (BA a bs::R) s):s.heap.get? a=ae (oT bs):=H.get<|not_eq_of_beq_eq_false rfl
theorem Sat.Gi(H:Sat C (BA a bs::R) s):s.TypeIs (.ref a) "bytearray":=⟨_,H.ba,rfl⟩
open Builtin Builtin.Bytes in
theorem nJ{Q}{prog}{w}(h:s.heap.get? a=ae (oT bs))(q:Q () s):a6 (bx prog w) A (Ox<|.ref a) Q E s:=by
 unfold Ox;refine aR<|aR<|rL ?_;simp only[bE,if_false,toBool];rwa[a6.of,(?_:aC _ _ ((load a>>=_)>>=_) _ _ s),aB<|rp h<|au ?_,au<|by first |exact a6.of (au q) |exact aY q]
open Builtin Builtin.Bytes in
theorem xw{M}{i}{t}{Q}(h0:0<=i)(h1:i<256)(q:Q (bz i.toNat) s):aC M A (byteValue<|.int i t) Q E s:=by
 unfold byteValue;rwa[(?_:aC _ _ (if(decide (i<0)||decide (i>=256))=ah then _ else _) _ _ s),af (if_neg<|by simp;lia),au q]
theorem Sat.VU(H:Sat C (BA a bs::R) s)(e:f bs.toArray=bs'.toArray):Sat C (BA a bs'::R) {s with heap:=s.heap.update a<|jZ f,toks:=t}:=by
 have hu:=bj (jZ f) H.ba (by rfl);have:=Sat.set (t:=t) (o':=jZ f<|oT bs) H (bu s.heap a _) hu (.inl ⟨λvs q=>by(contradiction),rfl⟩);rw[bU<|by rwa[(?_:dB "bytearray"≠_),nofun]] at this
 have e2:jZ f (oT bs)=oT bs':=by
  refine(?_:({cls:=.type "bytearray",data:=.bytearray (f bs.toArray) 0}:fy)=_)
  (first |exact e |exact congrArg _ e |exact af e rfl)
 rw[e2] at this;exact this
open Builtin Builtin.Bytes in
theorem rM{C:Cx}{R:List bp}{f}{bs'}{Q}(H:Sat C (BA a bs::R) s)(e:f bs.toArray=bs'.toArray)(hz:bs'.length<=1000000)(q:∀s',Sat C (BA a bs'::R) s'->Q () s'):
 aC (bx C.prog C.w) A (write (.ref a) f) Q E s:=by
 refine(?_:aC _ _ (qaO a f) _ _ s);unfold qaO;erw [lB H.ba,(?_:aC _ _ (update a (jZ f)>>=λz=>lookBehind a) _ _ s),ak<|Le H.ba ?_];have H':=H.VU (t:=s.toks) e;erw [qq H'.ba ?_<|q _ H',(?_:(if bs'.toArray.size>lJ then ae "bytearray:memory" else aq)=aq)]
 (first |exact(if_neg<|by refine af bw<|af a9 ?_;exact iy<|‹a<=1000000->a<=16777216› hz) |exact congrArg _ (if_neg<|by rw[bw,a9];lia) |exact af (if_neg<|by rw[bw,a9];lia) rfl)
theorem Gj(H:Sat C l s)(u:vI (BA a bs) (BA a<|bs++[bz i.toNat]) l l')(h0:0<=i)(h1:i<256)(hz:bs.length<1000000)(q:∀s',Sat C l' s'->Q .none s'):
 a6 (bc C) A (i5 (.builtin "bytearray.append") [.ref a,.int i t]) Q E s:=by
 refine aK u.perm λR p1 p2=>?_;have H1:=H.perm p1;rwa[y3 je H1.Gi m7 (qS<|by rfl) ?_<|n7 _ _,(?_:a6 _ _ (ZQ (.int i t)>>=λc=>sR (.ref a)>>=λz=>nE (.ref a) (·.push c)>>=λz=>ret .none) _ _ s),bh (xw h0 h1<|aR<|nJ H1.ba<|bh<|rM H1 (bs':=bs++[bz i.toNat]) (by simp) (by simp;exact‹a<1000000->a<=999999› hz) λs' H'=>?_),aY<|bV _ rfl<|q _<|H'.perm p2.symm]
end
theorem jS:cD (.type "bytes") "__buffer__"=cg (ae<|.builtin "bytes.__buffer__"):=by rwa[af (bC _ _)<|af a0 ?_,_]
theorem rN:cD (.type "bytearray") "__buffer__"=cg (ae<|.builtin "bytearray.__buffer__"):=by rwa[af (bC _ _)<|af a0 ?_,_]
theorem y4:cD (.type "bytes") "__release_buffer__"=cg aq:=by rwa[af (bC _ _)<|af a0 ?_,_]
theorem Gk:cD (.type "bytearray") "__release_buffer__"=cg (ae<|.builtin "bytearray.__release_buffer__"):=by rwa[af (bC _ _)<|af a0 ?_,_]
theorem mD:gB (.type "bytearray") (.type "bytearray")=cg ah:=by rwa[af (eF _ _),_]
section
open Builtin Builtin.Bytes
variable{id name:String}
theorem kJ(hT:s.TypeIs v T)(hl:cD (.type T) name=cg (ae<|.builtin id))(he:id.endsWith ("."++name)=ah)(hd:id.dropRight (name.length+1)=T)(hs:gB (.type T) (.type T)=cg ah)(q:Q ah s):
 aC M A (fR v name) Q E s:=by
 unfold fR;erw [sB hT hl];dsimp only;rwa[af he<|af hd ?_,z4 hT hs q]
theorem v8(hT:s.TypeIs v T)(hl:cD (.type T) name=cg aq)(q:Q ah s):aC M A (fR v name) Q E s:=by
 unfold fR;exact sB hT hl<|au q
theorem te(hT:s.TypeIs v T)(hl:cD (.type T) "__buffer__"=cg (ae<|.builtin id))(hid:id="bytes.__buffer__"\/id="bytearray.__buffer__")(own:∀{A:c5} {Q:Bool->aE->Prop} {E:aG->aE->Prop},Q ah s->aC M A (fR v "__buffer__") Q E s)(rel:∀{A:c5} {Q:Bool->aE->Prop} {E:aG->aE->Prop},Q ah s->aC M A (fR v "__release_buffer__") Q E s)(pay:∀{A:c5} {Q:Array UInt8->aE->Prop} {E:aG->aE->Prop},Q b s->aC M A (uz v) Q E s)(q:Q (ae b) s):aC M A (buffer? i v full) Q E s:=by
 unfold buffer?
 have fin:aC M A (do
  if<-Ud v then jx s!"{i}:own-__release_buffer__-on-a-bytearray-subclass"
  return ae (<-uz v)) Q E s:=by
  unfold Ud;rwa[aB<|rel<|au ?_,ak<|pay<|au q]
 rcases hid with rfl |rfl<;>(refine sB hT hl (?_:aC _ _ (fR v "__buffer__">>=_) _ _ _);refine ak<|own (?_:aC _ _ (fQ v "__buffer__">>=_) _ _ _);exact sB hT hl fin)
theorem xx(hT:s.TypeIs v T)(hl:cD (.type T) "__buffer__"=cg (ae<|.builtin id))(hid:id="bytes.__buffer__"\/id="bytearray.__buffer__")(own:∀{A:c5} {Q:Bool->aE->Prop} {E:aG->aE->Prop},Q ah s->aC M A (fR v "__buffer__") Q E s)(rel:∀{A:c5} {Q:Bool->aE->Prop} {E:aG->aE->Prop},Q ah s->aC M A (fR v "__release_buffer__") Q E s)(pay:∀{A:c5} {Q:Array UInt8->aE->Prop} {E:aG->aE->Prop},Q b s->aC M A (uz v) Q E s)(q:Q (ae (b,aq)) s):aC M A (ZR i v f) Q E s:=by
 unfold ZR;refine ak<|wpAny_attempt ?_;unfold takeBuffer?;rcases hid with rfl |rfl<;>(refine sB hT hl (?_:aC _ _ (fR v "__buffer__">>=_) _ _ _);refine ak<|own (?_:aC _ _ (fQ v "__buffer__">>=_) _ _ _);refine sB hT hl ?_)
 . exact ak<|te hT hl (.inl rfl) own rel pay<|au<|au q
 . exact ak<|te hT hl (.inr rfl) own rel pay<|au<|au q
theorem Gm(q:Q ah s):aC M A (fR (.bytes b t) "__buffer__") Q E s:=by
 with_reducible exact kJ (T:="bytes") (name:="__buffer__") (id:="bytes.__buffer__") (dJ s b t) jS (by k_dflt decide+kernel) (by k_dflt decide+kernel) F.sub_bytes_bytes q
theorem Gn(q:Q ah s):aC M A (fR (.bytes b t) "__release_buffer__") Q E s:=by
 with_reducible exact v8 (T:="bytes") (name:="__release_buffer__") (dJ s b t) y4 q
theorem ye(q:Q b s):aC M A (uz<|.bytes b t) Q E s:=by
 unfold uz;exact pB<|au q
theorem Rf(hT:s.TypeIs (.ref a) "bytearray")(q:Q ah s):aC M A (fR (.ref a) "__buffer__") Q E s:=kJ hT rN (by decide+kernel) (by decide+kernel) mD q
theorem IK(hT:s.TypeIs (.ref a) "bytearray")(q:Q ah s):aC M A (fR (.ref a) "__release_buffer__") Q E s:=kJ hT Gk (by decide+kernel) (by decide+kernel) mD q
theorem v9(h:s.heap.get? a=ae (oT bs))(q:Q bs.toArray s):aC M A (uz<|.ref a) Q E s:=by
 delta uz payload?;rwa[aB<|rp h ?_,au<|au q]
end
theorem Gp(H:Sat C l s)(u:vI (BA a bs) (BA a<|bs++more) l l')(hz:bs.length+more.length<=1000000)(q:∀s',Sat C l' s'->Q .none s'):
 a6 (bc C) A (i5 (.builtin "bytearray.extend") [.ref a,.bytes more.toArray t]) Q E s:=by
 refine aK u.perm λR p1 p2=>?_;have H1:=H.perm p1;refine y3 jf H1.Gi m8 (qS<|by rfl) ?_<|n9 _ _;unfold dr.«bytearray.extend»;refine aR<|fL (a:=(.ref a,.bytes more.toArray t)) rfl ?_;dsimp only;refine bh<|B4 (dJ _ _ _) jS ?_;simp only[FO,if_true];erw [bh<|DS<|bh<|v9 H1.ba ?_,bh<|xx (b:=more.toArray) (dJ _ _ _) jS (.inl rfl) Gm Gn ye ?_];simp only[Option.isNone_none,if_true]
 have wr:a6 (bc C) A.in1 (do nE (.ref a) (· ++more.toArray);ret .none) (λfin s'=>∃v,fin= .done (.ret v)/\Q v s') E s:=
  bh (rM H1 (bs':=bs++more) (by simp) (by simp;exact hz) λs' H'=>aY<|bV _ rfl<|q _<|H'.perm p2.symm)
 refine(?_:a6 _ _ (do
  if !more.toArray.isEmpty then sR (.ref a)
  nE (.ref a) (· ++more.toArray)
  ret .none) _ _ s)
 dsimp only
 split
 . exact aR<|nJ H1.ba wr
 . exact wr
theorem Rg(hm:BA a bs∈l)(H:Sat C l s)(hz:bs.length<=1000000)(q:∀t s',Sat C l s'->Q (.int bs.length t) s'):aC (bc C) A (i5 (.builtin "len") [.ref a]) Q E s:=by
 erw [c4 (H.mem hm) λR H1=>?_,qam (n:=(bs.length:Int)) H1.Gi kH (λQ' hq=>?_) (bO.mpr<|‹a>=0›) (by lia)<|q _ _ H.toks,gz kH H1.Gi qf ?_<|qT _,(?_:aC _ _ (vC (.ref a)>>=λb=>retInt b.size) _ _ s),ak<|v9 H1.ba<|ak<|wpAny_mkInt<|au<|bV _ rfl ?_];trivial
theorem Rh(hm:BA a bs∈l)(H:Sat C l s)(h0: -(bs.length:Int)<=i)(h1:i<bs.length)(hz:bs.length<=1000000)(hx:bs[(if i<0 then i+bs.length else i).toNat]? =ae x)(q:∀t s',Sat C l s'->Q (.int x.toNat t) s'):
 aC (bc C) A (ru (.ref a)<|.int i t) Q E s:=by
 refine c4 (H.mem hm) λR H1=>?_;have VV:fx i=ah:=by simp only[fx,bG,decide_eq_true_eq];lia
 have hsq:(z5 i bs.toArray.size).bind (bs.toArray[·]?)=ae x:=by
  unfold z5;erw [af a9];by_cases hn:i<0
  . rw[if_pos hn] at hx
    refine c4 (bg.mp hx) λz hx=>?_;have e1:0<=i+(bs.length:Int):=by lia
    have e2:i+(bs.length:Int)<bs.length:=by lia
    simp[hn,e1,e2,hx]
  . rw[if_neg hn] at hx
    refine c4 (bg.mp hx) λz hx=>?_;have e1:0<=i:=by lia
    simp[hn,e1,h1,hx]
 erw [wpAny_getItem_slot H1.Gi (by rfl) gb,gz gb H1.Gi mA ?_<|m9 _ _,(?_:aC _ _ (eY (.int i t)>>=λr=>_) _ _ s),ak];unfold eY;rwa[sB (nF s i t) F.slot_int_index.lookup,(?_:aC _ _ (if(!fx i)=ah then _ else cg (ae i)) _ _ s),af VV<|au ?_,(?_:aC _ _ (vC (.ref a)>>=λb=>_) _ _ s),ak<|v9 H1.ba ?_,(?_:aC _ _ (match(z5 i bs.toArray.size).bind (bs.toArray[·]?) with |some x=>retInt x.toNat |none=>_) _ _ s),af hsq<|ak<|wpAny_mkInt<|au<|bV _ rfl<|q _ _ H.toks]
theorem yf:xR (.type "bytes")=cg [.type "bytes",.type "object"]:=by rwa[af (mroOf_type _),_]
theorem ti:cD (.type "bytes") "__new__"=cg (ae<|.builtin "bytes.__new__"):=by rwa[af (bC _ _)<|af a0 ?_,_]
theorem uJ:Ub "bytes" "__init__" "object.__init__":=
 .of (owner:="object") (n:="__init__") (by refine af (bC _ _)<|af a0 ?_;kernel_rfl) (by rfl) (by rfl) (by rfl)
  (by first |exact .inl (by rfl) |exact .inr<|by decide+kernel) (by refine af (eF _ _) ?_;kernel_rfl)
theorem ng:TypeCalled "bytes" "bytes.__new__" "object.__init__":=
 ⟨by rfl,by rfl,(Cr _ _ yf),madeBy_type yf ti (by decide+kernel),by decide+kernel,by rwa[af (eF _ _),_],uJ⟩
theorem jn(a:aG):Hs "bytes" ⟨[a],[]⟩=cg ():=by kernel_rfl
theorem jT(a:aG):eu "bytes.__new__" ⟨[.type "bytes",a],[]⟩=cg ():=by kernel_rfl
theorem jU:iG oC "bytes.__new__"=ae dr.«bytes.__new__»:=fw (by kernel_rfl)
theorem AW:cD (.type "bytearray") "__bytes__"=cg aq:=by rwa[af (bC _ _)<|af a0 ?_,_]
theorem AX:cD (.type "bytearray") "__index__"=cg aq:=by rwa[af (bC _ _)<|af a0 ?_,_]
theorem xy:cD (.type "list") "__bytes__"=cg aq:=by rwa[af (bC _ _)<|af a0 ?_,_]
theorem xB:cD (.type "list") "__index__"=cg aq:=by rwa[af (bC _ _)<|af a0 ?_,_]
theorem oU:cD (.type "list") "__buffer__"=cg aq:=by rwa[af (bC _ _)<|af a0 ?_,_]
theorem wa(a:br)(bs:List UInt8):Meets (dr.«bytes.__new__» ⟨[.type "bytes",.ref a],[]⟩) (λA R s=>(s.heap.get? a=ae (oT bs)/\bs.length<=1000000)/\R (.ok<|.ret<|.bytes bs.toArray s.toks) {s with toks:=s.toks+1}):=
 U2 λprog w A R s ⟨⟨h,hz⟩,q⟩=>by
  have hT:s.TypeIs (.ref a) "bytearray":=⟨_,h,rfl⟩;unfold dr.«bytes.__new__»;erw [(?_:aC _ _ (gB (.type "bytes") (.type "bytes")>>=_) _ _ s),ak<|oG F.sub_bytes_bytes ?_,(?_:aC _ _ (fQ (.ref a) "__bytes__">>=_) _ _ s),sB hT AW];dsimp only;unfold asStr?;erw [aB<|lB h<|au<|au ?_,(?_:aC _ _ (fQ (.ref a) "__index__">>=_) _ _ s),sB hT AX,(?_:aC _ _ (l8 "bytes.__new__" (.ref a) ah>>=_) _ _ s),ak<|te (b:=bs.toArray) hT rN (.inr rfl) (Rf hT) (IK hT) (v9 h) ?_];dsimp only;refine rB<|ak ?_;unfold Lf;erw [af (if_neg<|by rwa[af bw<|af a9 ?_,iy<|‹a<=1000000->a<=16777216› hz]) ?_,ak<|Aq<|au ?_];have e:(dB "bytes"==dB "bytes")=ah:=by rfl
  rwa[(?_:aC _ _ ((if(dB "bytes"==dB "bytes")=ah then ret (.bytes bs.toArray s.toks)>>=λr=>cg r else _)) _ _ _),af (if_pos e)<|pB<|au<|bV _ rfl q]
theorem AY(hm:BA a bs∈l)(H:Sat C l s)(hz:bs.length<=1000000)(q:∀t s',Sat C l s'->Q (.bytes bs.toArray t) s'):
 aC (bc C) A (i5 (.type "bytes") [.ref a]) Q E s:=by
 exact c4 (H.mem hm) λR H1=>(Lg ng (by rfl) (jn _) (jT _) (λobj=>F.args_object_init_2 obj _) jU (wa a bs)<|gp ⟨H1.ba,hz⟩ rfl<|q _ _ H.toks)
theorem y5:xR (.type "bytearray")=cg [.type "bytearray",.type "object"]:=by rwa[af (mroOf_type _),_]
theorem xC:cD (.type "bytearray") "__new__"=cg (ae<|.builtin "bytearray.__new__"):=by rwa[af (bC _ _)<|af a0 ?_,_]
theorem Gq:TypeCalled "bytearray" "bytearray.__new__" "bytearray.__init__":=
 ⟨by rfl,by rfl,(Cr _ _ y5),madeBy_type y5 xC (by decide+kernel),by decide+kernel,mD,fG⟩
theorem AZ:Hs "bytearray" ⟨[],[]⟩=cg ():=by kernel_rfl
theorem CL:eu "bytearray.__new__" ⟨[.type "bytearray"],[]⟩=cg ():=by kernel_rfl
theorem y6:iG oC "bytearray.__new__"=ae dr.«list.__new__»:=entryFor_alias (id':="list.__new__") (by rwa[af (U3 _),_]) (by rfl) (by decide+kernel) (by rwa[af (U3 _),_])
theorem rO:plainId "bytearray.__new__"=ah:=by decide+kernel
set_option maxRecDepth 1000000 in
set_option maxHeartbeats 4000000 in
theorem y7:("bytearray.__new__".splitOn ".__new__").headD ""="bytearray":=by rw[split_bytearray];rfl
theorem A0(h:Q₁ (.ref s.heap.objs.size) {s with heap:=s.heap.push<|oT []}):
 Lc (bx prog w) A (.call (.builtin "bytearray.__new__") ⟨[.type "bytearray"],[]⟩) (wants Q₁ E) s:=by
 erw [codeAny_of_tree,(?_:aC _ A.in1 (do eu "bytearray.__new__" ⟨[.type "bytearray"],[]⟩;again (.builtin "bytearray.__new__" ⟨[.type "bytearray"],[]⟩)) _ _ s),ak<|oG CL<|au ⟨vA rO _,codeAny_builtin_stack y6 rfl λp st=>?_⟩,af (jH rO _)];have Z3:=mD;have qe6:=y7;obtain⟨hp,g,d,tk,os⟩:=s;simp only[qe6]
 wp_walk
 exact h
open Builtin Builtin.Bytes in
theorem CM(a:br):dr.«bytearray.__init__» ⟨[.ref a],[]⟩=(Ud (.ref a)>>=λx=>if x then jx "bytearray.__init__:own-__release_buffer__-on-a-subclass" else
 (qfb (.ref a) <||> (do return (<-exportsOf (.ref a))>0))>>=λy=>if y then(uz (.ref a)>>=λp=>if !p.isEmpty then Ox (.ref a)>>=λz=>jx "bytearray.__init__:exported" else jx "bytearray.__init__:exported") else write (.ref a) (λz=> #[])>>=λz=>ret .none):=by kernel_rfl
theorem Ms{Q:aE->Prop}(H:Sat C (BA a []::R) s)(q:∀s',Sat C (BA a []::R) s'->Q s'):
 a6 (bc C) A (dr.«bytearray.__init__» ⟨[.ref a],[]⟩) (λfin s'=>∃v,fin= .done (.ret v)/\v= .none/\Q s') E s:=by
 rwa[af (CM _),bh<|ak<|IK H.Gi<|au<|aR<|aR<|rL ?_,a6.of<|aB<|rp H.ba<|au<|au ?_,bh<|rM H (bs':=[]) rfl (cM _) λs' H'=>aY<|oK _ rfl rfl<|q _ H']
theorem Ri(H:Sat C l s)(q:∀a s',Sat C (BA a []::l) s'->Q (.ref a) s'):a6 (bc C) A (i5 (.type "bytearray") []) Q E s:=by
 have Uv:=y5;refine eK (cT<|aY ⟨⟨iV _ (by decide+kernel),qS (by rfl) _⟩,gv F.entry_type_call ?_⟩);unfold dr.«type.__call__»;erw [(?_:a6 _ _ (Hs "bytearray" ⟨[],[]⟩>>=_) _ _ s),aR<|fL AZ ?_,(?_:a6 _ _ (xR (.type "bytearray")>>=_) _ _ s),aR<|fL y5 ?_,(?_:a6 _ _ (Bind.madeBy (.type "bytearray")>>=_) _ _ s),aR<|fL Gq.made ?_];dsimp only;erw [pC];have H1:=H.alloc (o:=oT []) (t:=s.toks) rfl;rw[bU<|by rwa[(?_:dB "bytearray"≠_),nofun]] at H1;erw [bh<|cL<|DU<|A0 ?_,bh<|z4 H1.Gi mD ?_];simp only[sG,bE,if_false];erw [Qu];unfold rq;refine bh<|B4 H1.Gi fG.lookup ?_;dsimp only;erw [bJ<|aR<|fL (fG.bind _)<|aR ?_,y3 fG H1.Gi oS (qS<|by rfl) ?_<|qg _,Pb (Ms (Q:=λs'=>Q (.ref s.heap.objs.size) s') H1 λs' H'=>q _ _ H') λfin s' h=>?_];obtain⟨v,rfl,rfl,h⟩:=h;exact(bV _ rfl<|aY<|aY h)
set_option tactic.hygienic true in
theorem xD{K}{Cl}(h:UZ K Cl=ah):keepIn K (.ref Cl)=ah:=by
 unfold UZ at h;unfold keepIn
 split at h
 . rename_i oc od cd sl ho
   simp only[bG] at h;simp only[ho];exact h.1.2
 . contradiction
theorem Rm.CN{C}{A}{n}(rm:Rm C A (n+1)){Cl}{rest}:Rm C (A.under<|.builtin "type.__call__" ⟨.ref Cl::rest,[]⟩) n:=by
 have hw:(gw "type.__call__" ⟨.ref Cl::rest,[]⟩).weight=1:=rfl;have hu:(gw "type.__call__" ⟨.ref Cl::rest,[]⟩).cUnits=1:=rfl;refine⟨rm.handled,?_,?_,?_⟩
 . have:=rm.depth;rwa[(?_:A.depth+(gw "type.__call__" ⟨.ref Cl::rest,[]⟩).weight+2*n<_),af hw,‹a+2*(b+1)<c->a+1+2*b<c› this]
 . have:=rm.units;rwa[(?_:A.units+(gw "type.__call__" ⟨.ref Cl::rest,[]⟩).cUnits+6*n<_),af hu,‹a+6*(b+1)<c->a+1+6*b<c› this]
 . refine aK rm.frames λl a b=>?_
   exact(bV l a b)
theorem Sat.Mt(H:Sat C l s)(Cl:br)(ns:List bI):Sat C (lO (s.heap.objs.size+1) Cl ns (iz ns)::l) {s with heap:=(s.heap.push gA).push<|hV Cl s.heap.objs.size}:=by
 have H1:=H.alloc (o:=gA) (t:=s.toks) rfl;have H2:=H1.alloc (o:=hV Cl s.heap.objs.size) (t:=s.toks) rfl;rw[bU (by exact nofun),bU (by exact nofun),show(s.heap.push gA).objs.size=s.heap.objs.size+1 from lU ..] at H2;refine Sat.Ec (od:=gA) (es:= #[]) (ep:=0) H2 rfl rfl (λe he=>by simp at he) ?_ λx=>by erw [af (mY _ _)];rfl
 refine(?_:0=_);unfold iz
 induction ns with
 |nil=>rfl
 |cons n ns ih=>refine af bW<|af nW ?_;trivial
theorem Gr{K:qo}{Cl:br}(G:Gl C K)(hm:UZ K Cl=ah)(mk:vL K Cl "__init__" f)(H:Sat C l s)(k:∀x s',Sat C (lO x Cl ns (iz ns)::l) s'->cQ (bc C) (A.under<|.builtin "type.__call__" ⟨.ref Cl::rest,[]⟩) (.call (.ref f) ⟨.ref x::rest,[]⟩) (DT x Rr) s'):
 cQ (bc C) A (.call (.ref Cl) ⟨rest,[]⟩) Rr s:=by
 have X:=G.X H;obtain⟨hh,g,d,t,os⟩:=s;exact CJ (makes_of X hm) (iP X mk.find) (λself=>bind_fn X self<|beq_iff_eq.mp mk.fn) rfl<|k _ _<|H.Mt Cl ns
theorem qU(hp:args.any (·.1)=ao)(h:a6 (bc C) A (xQ fv ah args []) (λx s₁=>(∃k,(k=Keeper.frame\/k=Keeper.machine)/\dA (bc C) s₁.heap (Ow fv) k)/\a6 (bc C) A (i5 fv x.pos x.kw) Q E s₁) E s):a6 (bc C) A (jc pos fv [] args []) Q E s:=by
 unfold jc;refine IJ h λx s₁ h₁=>ou ?_
 have tail:∀{t:qD aG},a6 (bc C) A t Q E s₁->a6 (bc C) A (t>>=λr=>iO [r] point>>=λz=>cg r) Q E s₁:=
  λht=>mC ht λr s₂ hr=>Qu<|my<|aY hr
 simp only[hp,Cm,Ap];erw [nn λzn=>?_,aT h₁ λaH hc=>?_,-h₁,aK aH λk hk lk=>?_,zn,-zn,-aH,VT lk];rcases hk with rfl |rfl
 . dsimp only
   split
   . exact tail hc
   . exact tail (by unfold Ua;exact vU hc)
 . exact tail hc
noncomputable def Cx.as(C:Cx)(prog:oE)(w:iU):Cx:={C with prog:=prog,w:=w}
theorem Sat.as(H:Sat C l s)(prog:oE)(w:iU):Sat (C.as prog w) l s:=by
 erw [aT H λaH cX=>?_,-H];obtain⟨a,b,c,d,e⟩:=aH;erw [aK cX λg hg gW=>?_,-cX];obtain⟨f,h,i⟩:=gW;exact⟨⟨a,b,c,d,e⟩,g,hg,⟨f,h,i⟩⟩
theorem Sat.un(H:Sat (C.as prog w) l s):Sat C l s:=by
 erw [nn λzn=>?_,aT H λaH cX=>?_,-H];obtain⟨a,b,c,d,e⟩:=aH;erw [aK cX λg hg gW=>?_,-cX];obtain⟨f,h,i⟩:=gW;rwa[zn,-zn,⟨⟨a,b,c,d,e⟩,g,hg,⟨f,h,i⟩⟩]
inductive Tells:List Value->List UInt8->Prop
 |nil:Tells [] []
 |cons {i:Int} {t:Tok} {xs bs}:0<=i->i<256->Tells xs bs->Tells (.int i t::xs) (UInt8.ofNat i.toNat::bs)
theorem Tells.length(h:Tells xs bs):xs.length=bs.length:=by induction h<;>simp_all
theorem Tells.at(h:Tells xs bs):∀{k:Nat} {v:aG},xs[k]? =ae v->∃i t,v= .int i t/\0<=i/\i<256/\bs[k]? =ae (bz i.toNat):=by
 induction h with
 |nil=>intro k v e;contradiction
 | @cons i t xs bs h0 h1 h ih=>
   intro k v e
   cases k with
   |zero=>(injection e with e;subst e);exact(F5 i t rfl h0 h1 rfl)
   |succ k=>exact ih e
theorem gQ:plainId "bytes.__new__.loop"=ah:=by decide+kernel
theorem mF:iG oC "bytes.__new__.loop"=ae dr.«bytes.__new__.loop»:=fw (by kernel_rfl)
theorem CO(hh:A.handled=aq)(hx:Tells xs bs)(hz:bs.length<=1000000)(q:∀t s',Sat C (jJ a xs::l) s'->R (.ok<|.ret<|.bytes bs.toArray t) s'):
 ∀(n:Nat) (k:Nat) (s:aE),k+n=xs.length->Sat C (vS it a xs k::BA ba (bs.take k)::l) s->
 Lc (bc C) A (.builtin "bytes.__new__.loop" ⟨[.type "bytes",.ref it,.ref ba],[]⟩) R s:=by
 have hl:=hx.length;intro n
 induction n with
 |zero=>
  intro k s hk H;have hk:k=xs.length:=‹a+0=b->a=b› hk;erw [!hk,qaP mF<|af (jH gQ _) ?_];unfold dr.«bytes.__new__.loop»;erw [(?_:aC _ _ (Ue (.ref it)>>=_) _ _ s),ak<|(mx (C:=C) (it:=it) (a:=a) (xs:=xs) (A:=A.in1) hh).fin _ _ _ _ H λs' H'=>?_];dsimp only;have H':Sat C (jJ a xs::BA ba bs::l) s':=by rw[hl,dP] at H';exact H'
  erw [ak<|v9 (iC H').ba ?_,ak];unfold Lf;erw [af (if_neg<|by rwa[af bw<|af a9 ?_,iy<|‹a<=1000000->a<=16777216› hz]) ?_,ak<|Aq<|au ?_];have e:(dB "bytes"==dB "bytes")=ah:=by rfl
  rwa[(?_:aC _ _ ((if(dB "bytes"==dB "bytes")=ah then ret (.bytes bs.toArray s'.toks)>>=λr=>cg r else _)) _ _ _),af (if_pos e)<|pB<|au<|q _ _ (iC H').drop.toks]
 |succ n ih=>
  intro k s hk H;refine qaP mF<|af (jH gQ _) ?_;unfold dr.«bytes.__new__.loop»;erw [(?_:aC _ _ (Ue (.ref it)>>=_) _ _ s),ak<|(mx (C:=C) (it:=it) (a:=a) (xs:=xs) (A:=A.in1) hh).item k _ _ _ _ (‹a+(b+1)=c->a<c› hk) H λv s' hv H'=>?_,Vk (hx.at hv) λi t aH h0 h1 hb=>?_,!aH];dsimp only;erw [CK,(?_:aC _ _ (cg i) _ _ s'),au<|ak<|wpAny_letGo ?_,af (if_neg<|by simp;lia)];have e:bs.take (k+1)=bs.take k++[bz i.toNat]:=by refine af uA<|af hb ?_;rfl
  rwa[ak (rM (iC H') (bs':=bs.take<|k+1) (by rwa[af e,List.push_toArray (List.take k bs) i.toNat.toUInt8]) (by erw [af cA];lia) λlP Mu=>?_),au ⟨vA gQ _,ih (k+1) lP (‹a+(b+1)=c->a+1+b=c› hk)<|iC Mu⟩]
theorem tj(C:Cx)(l:List bp)(a:br)(xs:List aG)(bs:List UInt8)(hx:Tells xs bs)(hz:bs.length<=1000000):Meets (dr.«bytes.__new__» ⟨[.type "bytes",.ref a],[]⟩)
 (λA R s=>A.handled=aq/\Sat C (jJ a xs::l) s/\∀t s',Sat C (jJ a xs::l) s'->R (.ok<|.ret<|.bytes bs.toArray t) s'):=by
 rintro prog w A R s ⟨hh,H0,q⟩;have H:Sat (C.as prog w) (jJ a xs::l) s:=H0.as prog w;have hT:s.TypeIs (.ref a) "list":=H.lst.typeIs;erw [nn λzn=>?_,dh (id H.lst) λo ho hc aH=>?_,c4 aH λn hd=>?_,zn,-zn,-aH];unfold dr.«bytes.__new__»;erw [(?_:aC _ _ (gB (.type "bytes") (.type "bytes")>>=_) _ _ s),ak<|oG F.sub_bytes_bytes ?_,(?_:aC _ _ (fQ (.ref a) "__bytes__">>=_) _ _ s),sB hT xy];dsimp only;unfold asStr?;erw [aB<|lB ho ?_,af hd,au<|au ?_,(?_:aC _ _ (fQ (.ref a) "__index__">>=_) _ _ s),sB hT xB,(?_:aC _ _ (l8 "bytes.__new__" (.ref a) ah>>=_) _ _ s),ak];unfold l8;erw [sB hT oU,(?_:aC _ _ (fQ (.ref a) "__buffer__">>=_) _ _ s),sB hT oU<|au ?_];dsimp only;erw [ak<|wpAny_tryCatch<|vT (C:=C.as prog w) H λit s1 H1=>?_,CK];have H1':=Sat.unpack.mp H1;have hT1:s1.TypeIs (.ref a) "list":=(iC H1').lst.typeIs;unfold ZS;erw [sB hT1 slot_list_len.lookup];dsimp only;erw [af (show splitId "list.__len__"=ae ("list","__len__") from by rfl)];dsimp only;refine ak<|z4 hT1 sub_list_self ?_;simp only[sG,bE,if_false];refine af (if_pos<|by rfl)<|au<|ak ?_;unfold ZT;have H2:=H1.alloc (o:=oT []) (t:=s1.toks) rfl;rw[bU<|by rwa[(?_:dB "bytearray"≠_),nofun]] at H2;rwa[j0 ?_ (by size_fits),au ⟨vA gQ _,?_⟩,CO (C:=C.as prog w) hh hx hz (λt s' H'=>q t s' H'.un) xs.length 0 _ (by simp)<|iC H2]
theorem xE(hh:A.handled=aq)(hx:Tells xs bs)(hz:bs.length<=1000000)(H:Sat C (jJ a xs::l) s)(q:∀t s',Sat C (jJ a xs::l) s'->Q (.bytes bs.toArray t) s'):
 aC (bc C) A (i5 (.type "bytes") [.ref a]) Q E s:=
 Lg ng (by rfl) (jn _) (jT _) (λobj=>F.args_object_init_2 obj _) jU (tj C l a xs bs hx hz) (gp hh H λt s' H'=>⟨rfl,q _ _ H'⟩)
theorem nK:Ub "bytes" "__rmul__" "bytes.__rmul__":=
 .of (owner:="bytes") (n:="__rmul__") (by refine af (bC _ _)<|af a0 ?_;kernel_rfl) (by rfl) (by rfl) (by rfl)
  (by first |exact .inl (by rfl) |exact .inr<|by decide+kernel) (by refine af (eF _ _) ?_;kernel_rfl)
theorem tm:fillsNumberSlot (.type "bytes") "mul"=cg ao:=
 PySem.fillsNumberSlot_seq (id:="bytes.__mul__") (r:=ae<|.builtin "bytes.__rmul__") kI.lookup (by rfl) nK.lookup (by rfl)
theorem y8:seqRepeat? (.type "bytes")=cg (ae<|.builtin "bytes.__mul__"):=by
 unfold seqRepeat?;refine af (PySem.seqSlot_of (T:="bytes") (name:="__mul__") (id:="bytes.__mul__") kI.lookup<|by rfl) (af (PySem.seqSlot_of (T:="bytes") (name:="__rmul__") (id:="bytes.__rmul__") nK.lookup<|by rfl) ?_);rfl
theorem tw(n:Int)(u:Tok)(b:Array UInt8)(t:Tok):Gives (dr.«int.__rmul__» ⟨[.int n u,.bytes b t],[]⟩) (.val .notImplemented):=
 .of_wp λM A E s Q h=>by obtain⟨hp,g,d,tk,os⟩:=s;wp_walk;exact(bV _ rfl h)
theorem y9(x:UInt8)(n:Nat):uS #[x] n=(aS n x).toArray:=by
 unfold uS;erw [af (if_neg<|by simp)]
 induction n with
 |zero=>rfl
 |succ n ih=>
  erw [af d8<|af fE<|af ih<|af d8 ?_,(?_:(aS n x).toArray++[x].toArray=_)]
  (first |exact(eH _ _) |exact congrArg _ (eH _ _) |exact af (eH _ _) rfl)
theorem Gs(h0:0<=n)(h1:n<=1000000)(H:Sat C l s)(q:∀t s',Sat C l s'->Q (.bytes (aS n.toNat x).toArray t) s'):
 aC (bc C) A (qw .Mult (.bytes #[x] t)<|.int n u) Q E s:=by
 refine wpAny_binaryOp_repeat (T:="bytes") (U:="int") (by rfl) (λs'=>dJ s' _ t) (λs'=>nF s' n u) tm F.fills_int_mul F.slot_int_rmul y8 F.slot_int_index.lookup
  (call_gives F.slot_int_rmul (nF s n u) F.entry_int_rmul (F.args_int_rmul_2 _ _) (tw n u _ t) ⟨rfl,?_⟩)
 refine gz kI (dJ s _ t) uI ?_<|v7 _ _;unfold dr.«bytes.__mul__»;erw [(?_:aC _ _ (tU .bytes "__mul__" ⟨[U4 #[x] t,qaQ n u],[]⟩>>=_) _ _ s),ak];unfold tU;erw [(?_:aC _ _ (if(!fx n)=ah then _ else cg (U4 #[x] t,n)) _ _ s),af (if_neg<|by simp[fx];lia),au,ak<|ye ?_];dsimp only;refine af (if_neg<|by refine(?_:¬(1*n.toNat>=2 ^ 63));lia) ?_
 split
 . rename_i HX
   have hn:n.toNat=1:=by
    have:(1*n.toNat==1)=ah:=HX;simpa using this
   erw [ak<|xS (dJ s _ t) ?_,af (if_pos<|by rfl),rB<|au<|bV _ rfl ?_];have:=q t s H;rw[hn] at this;exact this
 . refine af (if_neg<|by unfold ZU;refine af bw ?_;refine(?_:¬(decide (1*n.toNat>_)=ah));simp;lia) ?_
   erw [ak];unfold Lf;refine af (y9 _ _) (af (if_neg<|by erw [af bw];simp;lia) ?_);refine ak<|Aq<|au<|au<|bV _ rfl<|q _ _ H.toks
section
variable{a:br}{n:Nat}
def Z4(a:br)(xs:List aG):bp:=λg=>∃n,g=[(a,{cls:=.type "tuple",data:=.seq xs.toArray n})]
theorem Sat.tup(H:Sat C (Z4 a xs::R) s):s.heap.IsTuple a xs.toArray:=by
 rwa[c4 (Sat.ex.mp H) λn H=>?_,⟨_,H.get (by exact not_eq_of_beq_eq_false rfl),rfl,n,rfl⟩]
theorem Sat.za(H:Sat C l s)(k:FJ s.heap.objs.size s.heap h'):Sat C l {s with heap:=h'}:=
 H.ext (t:=s.toks) λb o e=>k b o (uR<|lr e) e
theorem oV(h:aC (bc C) A (gy env x v) Q E s):aC (bc C) A (jq (.Name x p) env v) Q E s:=assign_Name h
theorem Rj(hh:A.handled=aq)(hm:Z4 t [v1,v2]∈l)(H:Sat C l s)(k:∀s',Sat C l s'->aC (bc C) A (gy env x2 v2) (λz s1=>aC (bc C) A (gy env x1 v1) Q E s1) E s'):
 aC (bc C) A (unpackItems (.ref t) [x1,x2].length aq) (λitems s₂=>aC (bc C) A (pH ([x1,x2].reverse.map λn=>Oy env n) items.reverse) Q E s₂) E s:=by
 rwa[c4 (H.mem hm) λR H'=>?_,wpAny_unpackItems_tuple (items:= #[v1,v2]) hh H'.tup λh' he=>?_,(?_:aC _ _ (iO [v1] (Oy env x2 v2)>>=λz=>(iO [] (Oy env x1 v1)>>=λz=>cg ())) _ _ _),CK<|tS<|mE (k _<|H.za he) λz s1 h1=>CK<|tS<|mE h1 λz s2 h2=>au h2]
theorem zb(h:a6 (bc C) A (eval e env) (λv s'=>Q .next s') E s)(hi:interactive env=ao:=by k_dflt exact rfl)(hs:HP e aq pos.line env=cg ao:=by k_dflt exact rfl):a6 (bc C) A (exec (.Expr e pos) env) Q E s:=by
 rwa[af (exec_Expr env e pos hi hs),ou<|mC h λv s' h'=>a6.of<|wpAny_dropValue h']
end
theorem xc(h:Q (.bool<|!(v== .none)) s):aC M A (la .IsNot v .none) Q E s:=by
 by_cases e:v= .none
 . rwa[!e,wpAny_isNot_self rfl h]
 . refine isnot_none_ne e ?_
   have:(v== .none)=ao:=by simpa using e
   rw[this] at h;exact h
theorem A1(x y:bI)(t u:Tok):sT (.str x t) (.str y u) (x==y):=by
 have h:=Oz x y t u
 have e:(x.cps.toList==y.cps.toList)=(x==y):=by
  obtain⟨x⟩:=x;obtain⟨y⟩:=y;erw [af (propext Bool.eq_iff_iff)];simp
 rw[e] at h;exact h
section
variable{v:aG}{a:br}{b:Bool}
noncomputable abbrev Uw(a b c:Int)(t u v:Tok):fy:={cls:=.type "range",dict:=aq,data:=.fields #[.int a t,.int b u,.int c v],slots:= #[]}
theorem El{a}(h0: -1<=a)(h1:a<=2000000): -(2 ^ 62)<=a/\a<2 ^ 62:=⟨by omega,by omega⟩
theorem yg{n:Nat}(hn:n<=1000000):fp 0 n 1=ah/\(n:Int)=cV 0 n 1:=by
 have h:=El (a:=(n:Int)) (‹a>=-1›)<|‹a<=1000000->2000000>=a› hn;exact⟨small_one (by decide) (by decide) h.1 h.2,by rw[qff,ZF];rfl⟩
theorem yh{n:Nat}{a:Int}(hn:n<=1000000)(ha:0<=a/\a<=1000000):fp a (a+n) 1=ah/\(n:Int)=cV a (a+n) 1:=by
 erw [aT ha λh1 h2=>?_,-ha];have h:=El (a:=a) (by lia) (by lia);have k:=El (a:=a+n) (by lia) (by lia);exact⟨small_one h.1 h.2 k.1 k.2,by rw[qff,uQ,l9];rfl⟩
theorem yi{n:Nat}(hn:n<=1000000):fp ((n:Int)-1) (-1) (-1)=ah/\(n:Int)=cV ((n:Int)-1) (-1) (-1):=by
 have h:=El (a:=(n:Int)-1) (‹a-1>=-1›)<|‹a<=1000000->2000000>=a-1› hn;exact⟨small_down h.1 h.2 (by decide) (by decide),by rw[rangeSize_downNat,Int.sub_neg,Int.sub_add_cancel];rfl⟩
theorem VW(h:a6 (bc C) A (eval e1 env) (λa s1=>a6 (bc C) A (eval e2 env) (λb s2=>a6 (bc C) A (qw op a b) Q E s2) E s1) E s):a6 (bc C) A (eval (.BinOp e1 op e2 pos) env) Q E s:=by
 exact af (arm_eval_BinOp _ _ _ _ _)<|mC h λa s1 h1=>IJ h1 λb s2 h2=>ou<|iJ h2
end
inductive AV
 |none |bool (b:Bool) |int (i:Int) |str (x:Str) |bytes (b:List UInt8) |ref (k:Nat) |tup (xs:List AV) |raw (v:Value) |opt (o:Option Int)
set_option genCtorIdx false in
inductive Fz |tup(vs:List Value) |code(q:Str)
structure Om where
 ρ:List Addr
 τ:List (Addr×Fz)
mutual
def AV.Is(ω:Om):AV->aG->Prop
 |.none,v=>v= .none
 |.bool b,v=>v= .bool b
 |.int i,v=>∃t,v= .int i t
 |.str x,v=>∃t,v= .str x t
 |.bytes b,v=>∃t,v= .bytes b.toArray t
 |.ref k,v=>∃a,ω.ρ[k]? =ae a/\v= .ref a
 |.tup xs,v=>∃a vs,(a,Fz.tup vs)∈ω.τ/\v= .ref a/\AV.yj ω xs vs
 |.raw w,v=>v=w
 |.opt o,v=>match o with |Option.none=>v= .none |some i=>∃t,v= .int i t
def AV.yj(ω:Om):List AV->List aG->Prop
 |[],vs=>vs=[]
 |x::xs,vs=>∃v ws,vs=v::ws/\x.Is ω v/\AV.yj ω xs ws
end
inductive F2{α β:Type}(P:α->β->Prop):List α->List β->Prop
 |nil:F2 P [] []
 |cons {a b l m}:P a b->F2 P l m->F2 P (a::l) (b::m)
section
variable{α β:Type}{P:α->β->Prop}{l:List α}{m:List β}{a:α}
theorem F2.imp{Q:α->β->Prop}(h:F2 P l m)(k:∀a b,P a b->Q a b):F2 Q l m:=by
 induction h with
 |nil=>exact .nil
 |cons a _ ih=>exact .cons (k _ _ a) ih
theorem F2.length(h:F2 P l m):l.length=m.length:=by
 induction h with
 |nil=>rfl
 |cons _ _ ih=>exact Nat.succ_inj.mpr ih
theorem F2.at(h:F2 P l m):∀{i:Nat},l[i]? =ae a->∃b,m[i]? =ae b/\P a b:=by
 induction h with
 |nil=>intro i e;contradiction
 |cons p _ ih=>
  intro i e
  cases i with
  |zero=>(injection e with e;subst e);exact⟨_,rfl,p⟩
  |succ i=>exact ih (by simpa using e)
theorem F2.set{b:β}(h:F2 P l m)(p:P a b):∀{i:Nat},F2 P (l.set i a) (m.set i b):=by
 induction h with
 |nil=>intro i;exact .nil
 |cons q r ih=>
  intro i
  cases i with
  |zero=>exact .cons p r
  |succ i=>exact .cons q ih
theorem F2.append{l'}{m'}(h:F2 P l m)(h':F2 P l' m'):F2 P (l++l') (m++m'):=by
 induction h with
 |nil=>exact h'
 |cons p _ ih=>exact .cons p ih
theorem F2.ec{p:List β->Prop}(h:F2 P (a::l) m)(k:∀b m,P a b->F2 P l m->p (b::m)):p m:=by cases h with |cons x y=>exact k _ _ x y
theorem F2.en{p:List β->Prop}(h:F2 P [] m)(k:p []):p m:=by cases h;exact k
theorem F2.A2{f}{l:List γ}:∀{m:List β},F2 P (l.map f) m↔F2 (λc b=>P (f c) b) l m:=by
 induction l with
 |nil=>exact⟨λh=>F2.en h .nil,λh=>F2.en h .nil⟩
 |cons c l ih=>exact⟨λh=>F2.ec h λz z p q=>.cons p<|ih.mp q,λh=>F2.ec h λz z p q=>.cons p<|ih.mpr q⟩
end
abbrev Vs(ω:Om):List AV->List aG->Prop:=F2<|AV.Is ω
theorem iY:∀{vs:List aG},AV.yj ω xs vs↔Vs ω xs vs:=by
 induction xs with
 |nil=>
  intro vs;exact⟨λh=>(show vs=[] from h)▸ .nil,λh=>F2.en (p:=λvs=>AV.yj ω [] vs) h rfl⟩
 |cons x xs ih=>
  intro vs;exact⟨λz=>dF (show ∃v ws,vs=v::ws/\x.Is ω v/\AV.yj ω xs ws from z) λv ws e h r=>e▸ .cons h (ih.mp r),λh=>F2.ec (p:=λvs=>AV.yj ω (x::xs) vs) h λv m p q=>⟨v,m,rfl,p,ih.mpr q⟩⟩
def Aj(ω:Om):Option AV->Option aG->Prop
 |some a,ae v=>a.Is ω v
 |none,_=>True
 |some _,aq=>False
abbrev A3(ω:Om):List (Option AV)->List (Option aG)->Prop:=F2<|Aj ω
structure Agree(n:Nat)(ω bb:Om):Prop where
 l1:n<=ω.ρ.length
 l2:n<=bb.ρ.length
 same:∀i,i<n->bb.ρ[i]? =ω.ρ[i]?
 tups:∀p∈ω.τ,p∈bb.τ
noncomputable abbrev mh(ω bb:Om):Prop:=Agree ω.ρ.length ω bb
theorem Agree.refl(h:n<=ω.ρ.length):Agree n ω ω:=⟨h,h,λz z=>rfl,λz h=>h⟩
theorem mh.rfl:mh ω ω:=.refl<|aA _
theorem Agree.trans(h:Agree n ω bb)(k:Agree m bb Rk)(hn:n<=m):Agree n ω Rk:=
 ⟨h.l1,az hn k.l2,λi hi=>(k.same i<|aJ hi hn).trans<|h.same i hi,λp hp=>k.tups p<|h.tups p hp⟩
theorem Agree.ext(h:Agree n ω bb)(k:mh bb Rk):Agree n ω Rk:=h.trans k h.l2
theorem Agree.le(h:Agree n ω bb)(hm:m<=n):Agree m ω bb:=⟨az hm h.l1,az hm h.l2,λi hi=>h.same i<|aJ hi hm,h.tups⟩
theorem mh.at{ω bb:Om}(h:mh ω bb){k:Nat}{a:br}(e:ω.ρ[k]? =ae a):bb.ρ[k]? =ae a:=by
 rw[h.same k (bg.mp e).1];exact e
mutual
noncomputable def AV.cl(c:Nat->Bool):AV->Bool
 |.ref k=>c k
 |.tup xs=>AV.cls c xs
 |.none=>ah
 |.bool _=>ah
 |.int _=>ah
 |.str _=>ah
 |.bytes _=>ah
 |.raw _=>ah
 |.opt _=>ah
noncomputable def AV.cls(c:Nat->Bool):List AV->Bool
 |[]=>ah
 |x::xs=>x.cl c&&AV.cls c xs
end
structure Mv(c:Nat->Bool)(ω bb:Om):Prop where
 ref:∀k a,c k=true->ω.ρ[k]? =some a->bb.ρ[k]? =some a
 tup:∀p∈ω.τ,p∈bb.τ
theorem mh.mv(h:mh ω bb):Mv (λz=>ah) ω bb:=⟨λz z z e=>h.at e,h.tups⟩
mutual
theorem AV.nh:∀a:AV,a.cl (λz=>ah)=ah
 |.tup xs=>AV.Em xs
 |.ref _=>rfl
 |.none=>rfl
 |.bool _=>rfl
 |.int _=>rfl
 |.str _=>rfl
 |.bytes _=>rfl
 |.raw _=>rfl
 |.opt _=>rfl
theorem AV.Em:∀a:List AV,AV.cls (λz=>ah) a=ah
 |[]=>rfl
 |x::xs=>aQ.mpr ⟨AV.nh x,AV.Em xs⟩
end
mutual
theorem AV.Is.mv(m:Mv c ω bb):∀(a:AV) {v:aG},a.cl c=ah->a.Is ω v->a.Is bb v
 |.none,_,_,x=>x
 |.bool _,_,_,x=>x
 |.int _,_,_,x=>x
 |.str _,_,_,x=>x
 |.bytes _,_,_,x=>x
 |.ref k,_,p,x=>cR (λa=>jr<|m.ref k a p) x
 |.tup xs,_,p,x=>cR (λa=>cR λvs h=>⟨m.tup _ h.1,h.2.1,AV.yj.mv m xs p h.2.2⟩) x
 |.raw _,_,_,x=>x
 |.opt _,_,_,x=>x
theorem AV.yj.mv(m:Mv c ω bb):∀(a:List AV) {v:List aG},AV.cls c a=ah->AV.yj ω a v->AV.yj bb a v
 |[],_,_,x=>x
 |a::as,_,p,x=>cR (λw=>cR λws h=>⟨h.1,AV.Is.mv m a (aQ.mp p).1 h.2.1,AV.yj.mv m as (aQ.mp p).2 h.2.2⟩) x
end
theorem AV.Is.ext{ω bb}(h:mh ω bb){a:AV}{v}(x:a.Is ω v):a.Is bb v:=AV.Is.mv h.mv a a.nh x
theorem Vs.ext{ω bb:Om}(h:mh ω bb){a:List AV}{v:List aG}(x:Vs ω a v):Vs bb a v:=F2.imp x λz z=>AV.Is.ext h
noncomputable def OV.cl(c:Nat->Bool)(a:Option AV):Bool:=match a with |some a=>a.cl c |none=>ah
theorem Aj.mv{c}{ω bb}(m:Mv c ω bb){a}{v}(p:OV.cl c a=ah)(x:Aj ω a v):Aj bb a v:=by
 cases a with
 |none=>trivial
 |some a=>cases v with |none=>exact x |some v=>exact AV.Is.mv m a p x
theorem F2.mv{P:α->β->Prop}{Q:α->β->Prop}{t:α->Bool}{l:List α}{m:List β}(h:F2 P l m)(k:∀a b,t a=ah->P a b->Q a b)(p:l.all t=ah):F2 Q l m:=by
 induction h with
 |nil=>exact .nil
 |cons a _ ih=>exact .cons (k _ _ (aQ.mp p).1 a)<|ih (aQ.mp p).2
theorem Aj.ext{ω bb}(h:mh ω bb){a}{v}(x:Aj ω a v):Aj bb a v:=Aj.mv h.mv (by cases a with |none=>rfl |some a=>exact a.nh) x
theorem A3.ext{ω bb}(h:mh ω bb){a}{v}(x:A3 ω a v):A3 bb a v:=F2.imp x λz z=>Aj.ext h
def Mw(d:br)(f:Nat->Option Nat):bp:=λg=>∃f',(∀k:Int,match f' k with |some v=>∃p t,0<=k/\f k.toNat=ae p/\v= .int (p:Nat) t |none=>k<0\/f k.toNat=aq)/\(d==DR)=ao/\DI d 1000000 f' g
def VX(ω:Om)(a:br)(c:Nat)(vs:List (Option AV)):bp:=λg=>∃vs',A3 ω vs vs'/\lO a c (eG c) vs' g
def U7(m:br)(N:Nat)(p:Nat->Nat):bp:=λg=>
 (∃xs,(xs.length=N/\N<=1000000/\∀i,i<N->∃t,xs[i]? =ae (.int (p i:Nat) t))/\jJ m xs g)\/
 (∃d f,(N<=1000000/\∀i,i<N->(f i=ae (p i)\/(f i=aq/\p i=1024)))/\SL [VX ⟨[m,d],[]⟩ m 178 [ae<|.int (N:Nat),ae<|.ref 1],Mw d f] g)
def Rl(a:br)(v:Option aG):bp:=λg=>∃o,o.data= .cell v/\o.cls= .type "cell"/\g=[(a,o)]
def Cod(a:br)(q:bI):bp:=λg=>∃o vs t,o.data= .fields vs/\vs[1]? =ae (.str q t)/\g=[(a,o)]
inductive AO
 |inst (c:Nat) (vs:List (Option AV)) |lst (xs:List AV) |ba (bs:List UInt8) |tab (n:Nat) (f:Nat->Nat) |dct (f:Nat->Option Nat) |fb (v:Option AV) |fn (m:Lm) (q:Str) (cs:List (Str×Nat)) |tA (ms:List Lm) (q:Str) (p:Nat) |gone |ll (xs:List AV) |own (c:Nat) (P:Addr->bp) |IL (vs:List Value) (o:Obj)
def AO.P:AO->Om->br->bp
 |.inst c vs,ω,a=>VX ω a c vs
 |.lst xs,ω,a=>λg=>∃U8,Vs ω xs U8/\jJ a U8 g
 |.ba bs,_,a=>BA a bs
 |.tab n f,_,a=>U7 a n f
 |.dct f,_,a=>Mw a f
 |.fb v,ω,a=>λg=>∃w,Aj ω v w/\Rl a w g
 |.fn m q cs,ω,a=>λg=>∃c' cl nm pm ct,F2 (λ(p:bI×Nat) (q:bI×br)=>q.1=p.1/\ω.ρ[p.2]? =ae q.2) cs cl/\(c',Fz.code q)∈ω.τ/\pt a (uB nm q m.params m.body m.scope cl pm c' ct) g
 |.tA ms q p,ω,a=>λg=>a=p/\∃ps,qx ps.toList/\(∀m∈ms,qy m.pos ps.toList=aq\/∃c',qy m.pos ps.toList=ae (.ref c')/\(c',Fz.code q)∈ω.τ)/\pt a (tV ps) g
 |.gone,_,_=>λg=>g=[]
 |.own c P,_,a=>λg=>P a g/\∃vs g1 g2,g=g1++g2/\lO a c (eG c) vs g1
 |.IL vs o,_,a=>λg=>(o.cls= .type "list"/\∃n,o.data= .seq vs.toArray n)/\pt a o g
 |.ll xs,ω,a=>λg=>AV.cls (λz=>ao) xs=ah/\∃U8,Vs ω xs U8/\jJ a U8 g
noncomputable def AO.Ps:List AO->Om->List br->List bp
 |[],_,_=>[]
 |_::_,_,[]=>[]
 |o::os,ω,a::as=>o.P ω a::AO.Ps os ω as
noncomputable abbrev dR(ω:Om)(as:List br)(os:List AO):List bp:=AO.Ps os ω as
def Fz.P(a:br):Fz->bp
 |.tup vs=>Z4 a vs
 |.code q=>Cod a q
noncomputable abbrev tups(τ:List (br×Fz)):List bp:=τ.map λp=>p.2.P p.1
abbrev PI(P Q:bp):Prop:=∀g,P g->Q g
theorem SL.imp(k:F2 PI l l'):∀{g},SL l g->SL l' g:=by
 induction k with
 |nil=>exact id
 |cons p _ ih=>exact λh=>cR (λg1=>cR λg2 h=>⟨h.1,p _ h.2.1,ih h.2.2⟩) h
theorem Sat.oW(h:Sat C l s)(k:F2 PI l l'):Sat C l' s:=by
 rwa[aT h λf aH=>?_,-h,aK aH λg hg t=>?_,-aH,⟨f,g,SL.imp k hg,t⟩]
theorem F2.dK:∀{l:List bp},F2 PI l l
 |[]=>.nil
 |_::_=>.cons (λz h=>h) F2.dK
noncomputable def AO.cl(c:Nat->Bool)(o:AO):Bool:=match o with
 |.inst _ vs=>vs.all<|OV.cl c
 |.lst xs=>xs.all<|AV.cl c
 |.fb v=>OV.cl c v
 |.fn _ _ cs=>cs.all λp=>c p.2
 |_=>ah
theorem AO.P.mv{c:Nat->Bool}{ω bb:Om}(m:Mv c ω bb){a:br}{o:AO}(p:o.cl c=ah){g:Mj}(x:o.P ω a g):o.P bb a g:=by
 cases o with
 |inst _ _=>exact cR (λvs=>jr λh=>F2.mv h (λz z=>Aj.mv m) p) x
 |lst _=>exact cR (λvs=>jr λh=>F2.mv h (λa z=>AV.Is.mv m a) p) x
 |fb _=>exact cR (λw=>jr<|Aj.mv m p) x
 |fn _ _ _=>exact cR (λc'=>cR λcl=>cR λnm=>cR λpm=>cR λct h=>⟨F2.mv h.1 (λa b q y=>⟨y.1,m.ref _ _ q y.2⟩) p,m.tup _ h.2.1,h.2.2⟩) x
 |ll xs=>exact⟨x.1,cR (λvs=>jr λh=>iY.mp<|AV.yj.mv (c:=λz=>ao) ⟨λz z e=>(nomatch e),m.tup⟩ xs x.1<|iY.mpr h) x.2⟩
 |tA _ _ _=>exact B5 (cR λps h=>⟨h.1,λi hi=>(h.2.1 i hi).imp_right<|cR λc'=>B5<|m.tup _,h.2.2⟩) x
 |_=>exact x
theorem AO.nh(o:AO):o.cl (λz=>ah)=ah:=by
 cases o with
 |inst _ vs=>exact a4.mpr λx z=>by cases x with |none=>rfl |some a=>exact a.nh
 |lst xs=>exact a4.mpr λx z=>x.nh
 |fb v=>cases v with |none=>rfl |some a=>exact a.nh
 |fn _ _ cs=>exact a4.mpr λx z=>rfl
 |_=>rfl
noncomputable def AO.clh(c:Nat->Bool)(os:List AO):Bool:=os.all<|AO.cl c
theorem AO.Ps.mv(m:Mv c ω bb):∀{os:List AO} {as:List br},AO.clh c os=ah->F2 PI (AO.Ps os ω as) (AO.Ps os bb as)
 |[],_,_=>.nil
 |_::_,[],_=>.nil
 |_::_,_::_,p=>.cons (λz x=>x.mv m (aQ.mp p).1)<|AO.Ps.mv m (aQ.mp p).2
theorem AO.Ps.ext{ω bb}(h:mh ω bb){os}{as}:F2 PI (AO.Ps os ω as) (AO.Ps os bb as):=AO.Ps.mv h.mv<|a4.mpr λo z=>o.nh
theorem iF:∀{os:List AO} {as':List br} {os':List AO},as.length=os.length->dR ω (as++as') (os++os')=dR ω as os++dR ω as' os':=by
 induction as with
 |nil=>intro os as' os' h;erw [af (d9 h.symm)];rfl
 |cons x as ih=>intro os as' os' h;cases os with
  |nil=>contradiction
  |cons y os=>exact congrArg (y.P ω x:: ·)<|ih<|gN h
theorem IM{os:List AO}(h:as.length=os.length):dR ω (as++[a]) (os++[o])=dR ω as os++[o.P ω a]:=iF h
theorem ni:∀{os:List AO} {i:Nat} {o:AO},as.length=os.length->os[i]? =ae o->∃a,as[i]? =ae a/\∃R,(dR ω as os).Perm (o.P ω a::R)/\∀o',(dR ω as<|os.set i o').Perm (o'.P ω a::R):=by
 induction as with
 |nil=>intro os i o hl h;rw[d9 hl.symm] at h;contradiction
 |cons x as ih=>
  intro os i o hl h
  cases os with
  |nil=>contradiction
  |cons y os=>cases i with
   |zero=>
    injection h with h;subst h
    exact⟨x,rfl,dR ω as os,.refl _,λo'=>.refl _⟩
   |succ i=>
    rwa[nn λzn=>?_,aK (ih (os:=os) (i:=i) (o:=o) (gN hl) h) λa e aH=>?_,aK aH λR p q=>?_,zn,-zn,-aH,⟨a,e,y.P ω x::R,(p.cons _).trans<|.swap ..,λo'=>((q o').cons _).trans<|.swap ..⟩]
inductive AR |ret(v:AV) |exc(c:Nat)
noncomputable abbrev Frs:=List<|Option AV
inductive VC
 |ff |tt |nd (p:Prop) (v:VC) |fk (p:Prop) (a b:VC) |cl (n f:Nat) (vs:List AV) (hp:List AO) (k:AR->List AO->VC)
 |tn (n0:Nat) (fr:Frs) (hp:List AO) (J:Frs->List AO->Prop)
 |wh (fr:Frs) (hp:List AO) (b:(Frs->List AO->Prop)->Frs->List AO->VC)
 |rg (vs:List AV) (fr:Frs) (hp:List AO) (b:(Frs->List AO->Prop)->Int->Frs->List AO->VC) (x:Frs->List AO->VC)
 |fl (xs:List AV) (fr:Frs) (hp:List AO) (b:(Frs->List AO->Prop)->AV->Frs->List AO->VC) (x:Frs->List AO->VC)
structure Pm where
 N:Nat
 X:Nat->List AO->VC
 cm:List (Str×Nat)
 cw:Bool
 O:Expr->Frs->List AO->(AV->List AO->VC)->VC
structure Fm where
 C:Cx
 A:Around
 K:Frag
 p:Pm
 scope:Scope
 ns:List Str
 gs:List Str
 qual:Str
 L:Addr
 f:Addr
 cdv:Value
 cl:List (Str×Addr)
 E:Value->Shared->Prop
noncomputable abbrev Fm.env(c:Fm):DO:=eo c.qual c.scope c.L c.f c.cdv c.cl
def SA(c:Fm)(R:List bp)(ω:Om)(fr:Frs)(hp:List AO)(s:aE):Prop:=
 ω.ρ.length=hp.length/\∃vs',A3 ω fr vs'/\Sat c.C (ml c.L c.ns vs'::(dR ω ω.ρ hp++(tups ω.τ++R))) s
section
variable{c:Fm}{s:aE}{R:List bp}{ω:Om}{fr:Frs}{hp:List AO}{x:br}{P:bp}{z:Fz}
theorem pf{P:bp}{c:List bp}:(P::(a++(b++c))).Perm (a++(b++(P::c))):=by
 have h1:(a++(b++(P::c))).Perm (a++(P::(b++c))):=i8 a dw;exact(h1.trans dw).symm
theorem Sat.emp(H:Sat C l s):Sat C ((λg=>g=[])::l) s:=by
 rwa[aT H λf aH=>?_,-H,aK aH λg hg t=>?_,-aH,⟨f,g,⟨[],g,rfl,rfl,hg⟩,t⟩]
theorem SA.sat(h:SA c R ω fr hp s):∃l,Sat c.C l s/\∀s',Sat c.C l s'->SA c R ω fr hp s':=(bV _ h.2.choose_spec.2 λs' H=>⟨h.1,_,h.2.choose_spec.1,H⟩)
theorem SA.toks(h:SA c R ω fr hp s):SA c R ω fr hp {s with toks:=t}:=let⟨a,vs,b,d⟩:=h;⟨a,vs,b,d.toks⟩
theorem kK{R:List bp}:(F::(a++(b++(P::R)))).Perm (P::F::(a++(b++R))):=(pf.symm.cons _).trans<|.swap ..
theorem SA.out(h:SA c (P::R) ω fr hp s):∃l,Sat c.C (P::l) s/\(∀P' s',Sat c.C (P'::l) s'->SA c (P'::R) ω fr hp s')/\∀s',Sat c.C l s'->SA c R ω fr hp s':=by
 rwa[nn λzn=>?_,aT h λhl aH=>?_,-h,aK aH λvs hv H=>?_,zn,-zn,-aH,(oK _ (H.perm kK) (λP' s' H'=>⟨hl,vs,hv,H'.perm kK.symm⟩) λs' H'=>⟨hl,vs,hv,H'⟩)]
theorem SA.qbs(h:SA c R ω fr hp s):∃l,Sat c.C l s/\∀P s',Sat c.C (P::l) s'->SA c (P::R) ω fr hp s':=let⟨hl,vs,hv,H⟩:=h;(bV _ H λP s' H'=>⟨hl,vs,hv,H'.perm kK.symm⟩)
theorem SA.drop(h:SA c (P::R) ω fr hp s):SA c R ω fr hp s:=let⟨_,H,_,b⟩:=h.out;b _ H.drop
theorem SA.into(h:SA c R ω fr hp s){s'}(k:∀l,Sat c.C l s->Sat c.C (P::l) s'):SA c (P::R) ω fr hp s':=by
 rwa[aT h λhl aH=>?_,-h,aK aH λvs hv H=>?_,-aH,⟨hl,vs,hv,(k _ H).perm kK.symm⟩]
theorem SA.take(h:SA c R ω fr hp s)(e:hp[i]? =ae o):∃a,ω.ρ[i]? =ae a/\∃l,Sat c.C (o.P ω a::l) s/\∀P s',Sat c.C (P::l) s'->SA c (P::R) ω fr (hp.set i .gone) s':=by
 erw [nn λzn=>?_,aT h λhl aH=>?_,-h,aK aH λvs hv H=>?_,-aH,aK (ni (ω:=ω) hl e) λa ea aH=>?_,aK aH λl p q=>?_,zn,-zn,-aH,⟨a,ea,ml c.L c.ns vs::(l++(tups ω.τ++R)),H.perm<|((p.append_right _).cons _).trans<|.swap ..,λP s' H'=>⟨by simpa using hl,vs,hv,?_⟩⟩];have H2:Sat c.C (AO.P .gone ω a::P::ml c.L c.ns vs::(l++(tups ω.τ++R))) s':=H'.emp.imp λg hg=>hg;rwa[H2.perm<|ia ?_ (((q .gone).append_right _).cons _).symm,(kK.symm.cons<|AO.P .gone ω a).trans<|.swap ..]
theorem SA.give(h:SA c (P::R) ω fr hp s)(e:hp[i]? =ae .gone)(ea:ω.ρ[i]? =ae a)(k:∀g,P g->o.P ω a g):SA c R ω fr (hp.set i o) s:=by
 erw [nn λzn=>?_,aT h λhl aH=>?_,-h,aK aH λvs hv H=>?_,-aH,aK (ni (ω:=ω) hl e) λa' dU aH=>?_,aK aH λl p q=>?_,zn,-zn,-aH];rw[ea] at dU;injection dU with dU;subst dU
 refine⟨by simpa using hl,vs,hv,?_⟩;have H1:Sat c.C (o.P ω a::ml c.L c.ns vs::(l++(tups ω.τ++R))) s:=(((H.perm<|((p.append_right _).cons _).trans<|.swap ..).drop.perm kK).imp k);exact H1.perm<|(gD ..).trans<|((q o).append_right _).symm.cons _
theorem SA.obj(h:SA c R ω fr hp s)(e:hp[i]? =ae o):∃a,ω.ρ[i]? =ae a/\∃l,Sat c.C (o.P ω a::l) s/\(∀s',Sat c.C (o.P ω a::l) s'->SA c R ω fr hp s')/\∀s' o',Sat c.C (o'.P ω a::l) s'->SA c R ω fr (hp.set i o') s':=by
 erw [nn λzn=>?_,aT h λhl aH=>?_,-h,aK aH λvs hv H=>?_,-aH,aK (ni (ω:=ω) hl e) λa ea aH=>?_,aK aH λl p q=>?_,zn,-zn,-aH];have p1:∀{o:AO} {h:List AO},(dR ω ω.ρ h).Perm (o.P ω a::l)->(ml c.L c.ns vs::(dR ω ω.ρ h++(tups ω.τ++R))).Perm (o.P ω a::(ml c.L c.ns vs::(l++(tups ω.τ++R)))):=λp=>((p.append_right _).cons _).trans<|.swap ..;exact⟨a,ea,_,H.perm<|p1 p,λs' H'=>⟨hl,vs,hv,H'.perm (p1 p).symm⟩,λs' o' H'=>⟨by simpa using hl,vs,hv,H'.perm (p1<|q o').symm⟩⟩
theorem SA.VY{i:Nat}(h:SA c R ω fr hp s)(e:hp[i]? =ae o):∃a,ω.ρ[i]? =ae a/\∃l,Sat c.C (o.P ω a::l) s/\∀P s',Sat c.C (P::o.P ω a::l) s'->SA c (P::R) ω fr hp s':=by
 erw [nn λzn=>?_,aT h λhl aH=>?_,-h,aK aH λvs hv H=>?_,-aH];obtain⟨a,ea,l,p,-⟩:=ni (ω:=ω) hl e;erw [zn,-zn];have p1:(ml c.L c.ns vs::(dR ω ω.ρ hp++(tups ω.τ++R))).Perm (o.P ω a::(ml c.L c.ns vs::(l++(tups ω.τ++R)))):=((p.append_right _).cons _).trans<|.swap ..;exact⟨a,ea,_,H.perm p1,λP s' H'=>⟨hl,vs,hv,H'.perm<|(p1.symm.cons P).trans kK.symm⟩⟩
noncomputable def Om.add(ω:Om)(x:br):Om:=⟨ω.ρ++[x],ω.τ⟩
theorem Om.gd:mh ω (ω.add x):=⟨aA _,by simp[Om.add],λi hi=>by exact bF (by assumption),λz h=>h⟩
theorem Om.zc:(ω.add x).ρ[ω.ρ.length]? =ae x:=by simp[Om.add]
noncomputable def Om.xF(ω:Om)(x:br)(z:Fz):Om:=⟨ω.ρ,(x,z)::ω.τ⟩
theorem Om.oX:mh ω (ω.xF x z):=⟨aA _,aA _,λi hi=>rfl,λy h=>.tail _ h⟩
theorem SA.adopt(h:SA c (P::R) ω fr hp s)(k:∀g,P g->o.P (ω.add x) x g):SA c R (ω.add x) fr (hp++[o]) s:=by
 rwa[nn λzn=>?_,aT h λhl aH=>?_,-h,aK aH λvs hv H=>?_,zn,-zn,-aH,⟨by simp[Om.add,hl],vs,hv.ext Om.gd,?_⟩,(?_:Sat c.C (ml c.L c.ns vs::(dR (ω.add x) (ω.ρ++[x]) (hp++[o])++(tups ω.τ++R))) s),af (IM hl),(((H.perm kK).imp k).perm ?_).oW<|.cons (λz h=>h)<|(((AO.Ps.ext Om.gd).append F2.dK)).append F2.dK,af (ax _ _ _),ia (.swap ..)<|iQ _ dw.symm]
theorem SA.IP(h:SA c (z.P x::R) ω fr hp s):SA c R (ω.xF x z) fr hp s:=by
 rwa[nn λzn=>?_,aT h λhl aH=>?_,-h,aK aH λvs' hv H=>?_,zn,-zn,-aH,⟨hl,vs',hv.ext Om.oX,?_⟩,(?_:Sat c.C (ml c.L c.ns vs'::(dR (ω.xF x z) ω.ρ hp++(z.P x::(tups ω.τ++R)))) s),((H.perm kK).perm ?_).oW<|.cons (λy h=>h)<|(AO.Ps.ext Om.oX).append F2.dK,ia (.swap ..)<|iQ _ dw.symm]
theorem SA.tup(h:SA c R ω fr hp s)(m:p∈ω.τ):∃l,Sat c.C (p.2.P p.1::l) s:=by
 rwa[aT h λhl aH=>?_,-h,aK aH λvs' hv H=>?_,-aH,H.mem<|.tail _<|a5 _<|bB _<|dW.mpr<|bV p m rfl]
theorem Rm.in1(rm:Rm C A (n+1)):Rm C A.in1 n:=⟨rm.handled,by have:=rm.depth;rwa[(?_:A.depth+_<_),‹a+2*(b+1)<c->a+2*b<c› this],by have:=rm.units;rwa[(?_:A.units+1+_<_),‹a+6*(b+1)<c->a+1+6*b<c› this],rm.frames⟩
end
def yk(a:br)(c:Nat):bp:=λg=>∃o vs,o.cls= .ref c/\o.data= .fields vs/\
 ((vs[1]? =ae .none/\g=[(a,o)])\/∃tb ot tvs,vs[1]? =ae (.ref tb)/\(ot.cls= .type "traceback"/\ot.data= .fields tvs)/\3<tvs.size/\g=[(a,o),(tb,ot)])
structure LV(n:Nat)(f:Nat)(m:Nat)(args:List AV)(hp:List AO)(post:AR->List AO->Prop):Prop where
 run:∀{C:Cx} {A:Around} {K:Frag} (G:Gl C K) (F:KF K) (rm:Rm C A n) {ω:Om} {vs:List Value} {R:List bp} {s:Shared} {Rr:Result->Shared->Prop},
  Vs ω args vs->m<=hp.length->ω.ρ.length=hp.length->Sat C (dR ω ω.ρ hp++(tups ω.τ++R)) s->
  (∀v hp' bb w s',post (.ret v) hp'->Agree m ω bb->bb.ρ.length=hp'.length->v.Is bb w->Sat C (dR bb bb.ρ hp'++(tups bb.τ++R)) s'->Rr (.ok<|.ret w) s')->
  (∀c hp' bb a s',post (.exc c) hp'->Agree m ω bb->bb.ρ.length=hp'.length->Sat C (yk a c::(dR bb bb.ρ hp'++(tups bb.τ++R))) s'->Rr (.error<|.ref a) s')->
  cQ (bc C) A (.call (.ref f) ⟨vs,[]⟩) Rr s
def ki(n0:Nat)(fr:Frs)(hp:List AO)(fr':Frs)(hp':List AO):Prop:=∀c R ω s,n0<=ω.ρ.length->SA c R ω fr hp s->∃bb,Agree n0 ω bb/\SA c R bb fr' hp' s
def JS(n0:Nat)(fr:Frs)(hp:List AO)(J:Frs->List AO->Prop):Prop:=∃fr' hp',ki n0 fr hp fr' hp'/\J fr' hp'
def ze(vs:List AV)(a c:Int)(n:Nat):Prop:=n<=1000000/\
 ((vs=[.int n]/\a=0/\c=1)\/(vs=[.int a,.int<|a+n]/\(0<=a/\a<=1000000)/\c=1)\/(vs=[.int a,.int<|-1,.int<|-1]/\a=(n:Int)-1/\c= -1))
def VC.H:VC->Prop
 |.ff=>False
 |.tt=>True
 |.nd p v=>p/\v.H
 |.fk p a b=>(p->a.H)/\(¬p->b.H)
 |.cl n f vs hp k=>LV n f hp.length vs hp λr hp'=>(k r hp').H
 |.tn n0 fr hp J=>JS n0 fr hp J
 |.wh fr hp b=>∃(J:Nat->Frs->List AO->Prop) (n:Nat),JS hp.length fr hp (J n)/\∀n fr hp,J n fr hp->(b (λfr hp=>∃m,m<n/\J m fr hp) fr hp).H
 |.rg vs fr hp b x=>∃a c n,ze vs a c n/\∃J:Nat->Frs->List AO->Prop,JS hp.length fr hp (J 0)/\(∀i fr hp,i<n->J i fr hp->(b (J<|i+1) (a+(i:Nat)*c) fr hp).H)/\∀fr hp,J n fr hp->(x fr hp).H
 |.fl xs fr hp b x=>∃J:Nat->Frs->List AO->Prop,JS hp.length fr hp (J 0)/\(∀i fr hp v,xs[i]? =ae v->J i fr hp->(b (J<|i+1) v fr hp).H)/\∀fr hp,J xs.length fr hp->(x fr hp).H
section
variable{α:Type}
noncomputable def aX(o:Option α)(k:α->VC):VC:=match o with |some x=>k x |none=>.ff
noncomputable def fZ(v:AV)(k:Int->VC):VC:=match v with |.int i=>k i |_=>.ff
noncomputable def oY(v:AV)(k:Bool->VC):VC:=match v with |.bool i=>k i |_=>.ff
noncomputable def oZ(v:AV)(k:Nat->VC):VC:=match v with |.ref i=>k i |_=>.ff
noncomputable def En(v:AV)(k:List AV->VC):VC:=match v with |.tup i=>k i |_=>.ff
noncomputable def sL(v:AV)(k:List UInt8->VC):VC:=match v with |.bytes i=>k i |_=>.ff
noncomputable def FW(v:AV)(k:bI->VC):VC:=match v with |.str i=>k i |_=>.ff
noncomputable def Eo(o:AO)(k:List AV->VC):VC:=match o with |.lst xs=>k xs |_=>.ff
noncomputable def wc(l:List α)(k:VC):VC:=match l with |[]=>k |_=>.ff
noncomputable def qV(l:List α)(k:α->List α->VC):VC:=match l with |x::r=>k x r |_=>.ff
abbrev HI(l:List α)(k:α->VC):VC:=qV l λx r=>wc r<|k x
abbrev on2(l:List α)(k:α->α->VC):VC:=qV l λx r=>HI r<|k x
noncomputable def rP(b:Bool)(k:VC):VC:=match b with |true=>k |false=>.ff
variable{o:Option α}{l:List α}
theorem bX{k}(h:(aX o k).H):∃x,o=ae x/\(k x).H:=by cases o with |none=>exact h.elim |some x=>exact(bV x rfl h)
theorem bq{P:Prop}{k:α->VC}(h:(aX o k).H)(q:∀x,o=ae x->(k x).H->P):P:=let⟨x,e,h⟩:=bX h;q x e h
theorem kj(h:(rP b k).H):b=ah/\k.H:=by cases b with |false=>exact h.elim |true=>exact⟨rfl,h⟩
theorem jA{P:Prop}(h:(rP b k).H)(q:b=ah->k.H->P):P:=q (kj h).1 (kj h).2
theorem dH(h:(fZ v k).H):∃x,v= .int x/\(k x).H:=by cases v<;>first |exact(bV _ rfl h) |exact cq h
theorem ve{P:Prop}(h:(fZ v k).H)(q:∀x,v= .int x->(k x).H->P):P:=let⟨x,e,h⟩:=dH h;q x e h
theorem we(h:(oY v k).H):∃x,v= .bool x/\(k x).H:=by cases v<;>first |exact(bV _ rfl h) |exact cq h
theorem o3{P:Prop}(h:(oY v k).H)(q:∀x,v= .bool x->(k x).H->P):P:=let⟨x,e,h⟩:=we h;q x e h
theorem pO(h:(oZ v k).H):∃x,v= .ref x/\(k x).H:=by cases v<;>first |exact(bV _ rfl h) |exact cq h
theorem zf{P:Prop}(h:(oZ v k).H)(q:∀x,v= .ref x->(k x).H->P):P:=let⟨x,e,h⟩:=pO h;q x e h
theorem Gu(h:(En v k).H):∃x,v= .tup x/\(k x).H:=by cases v<;>first |exact(bV _ rfl h) |exact cq h
theorem Ep{P:Prop}(h:(En v k).H)(q:∀x,v= .tup x->(k x).H->P):P:=let⟨x,e,h⟩:=Gu h;q x e h
theorem o4(h:(sL v k).H):∃x,v= .bytes x/\(k x).H:=by cases v<;>first |exact(bV _ rfl h) |exact cq h
theorem Gv{P:Prop}(h:(sL v k).H)(q:∀x,v= .bytes x->(k x).H->P):P:=let⟨x,e,h⟩:=o4 h;q x e h
theorem Gw(h:(FW v k).H):∃x,v= .str x/\(k x).H:=by cases v<;>first |exact(bV _ rfl h) |exact cq h
theorem Er{P:Prop}(h:(FW v k).H)(q:∀x,v= .str x->(k x).H->P):P:=let⟨x,e,h⟩:=Gw h;q x e h
theorem tB(h:(Eo ob k).H):∃x,ob= .lst x/\(k x).H:=by cases ob<;>first |exact(bV _ rfl h) |exact cq h
theorem pP(h:(wc l k).H):l=[]/\k.H:=by cases l with |nil=>exact⟨rfl,h⟩ |cons x r=>exact cq h
theorem rQ{P:Prop}(h:(wc l k).H)(q:l=[]->k.H->P):P:=q (pP h).1 (pP h).2
theorem qW{k}(h:(qV l k).H):∃x r,l=x::r/\(k x r).H:=by cases l with |cons x r=>exact(vE x r rfl h) |nil=>exact cq h
theorem mG{P:Prop}{k:α->List α->VC}(h:(qV l k).H)(q:∀x r,l=x::r->(k x r).H->P):P:=let⟨x,r,e,h⟩:=qW h;q x r e h
theorem iZ{k}(h:(HI l k).H):∃x,l=[x]/\(k x).H:=by
 rwa[n6 (qW h) λx r aH h=>?_,!aH,aT (pP h) λaH h=>?_,!aH,(bV x rfl h)]
theorem zg{k}(h:(on2 l k).H):∃x y,l=[x,y]/\(k x y).H:=by
 rwa[n6 (qW h) λx r aH h=>?_,!aH,aK (iZ h) λy aH h=>?_,!aH,(vE x y rfl h)]
end
noncomputable def AR.el(r:AR)(k:AV->VC)(x:Nat->VC):VC:=match r with |.ret v=>k v |.exc c=>x c
def i0(e:Expr):Prop:=∀a b c p,e≠ .Slice a b c p
def CP(N n:Nat)(f:Nat->Nat)(j:Nat):Prop:=
 ∀{C:Cx} {A:c5} {K:qo} (G:Gl C K) (F:KF K) (rm:Rm C A N) {m:br} {t:Tok} {l:List bp} {s:aE} {value slice:Expr} {E:aG->aE->Prop} {Q:aG->aE->Prop},
  i0 slice->Sat C (U7 m n f::l) s->(∀t s',Sat C (U7 m n f::l) s'->Q (.int (f j:Nat) t) s')->a6 (bc C) A (du value slice (.ref m)<|.int j t) Q E s
def CQ(N n:Nat)(f:Nat->Nat)(j v:Nat):Prop:=
 ∀{C:Cx} {A:c5} {K:qo} (G:Gl C K) (F:KF K) (rm:Rm C A N) {m:br} {t u:Tok} {l:List bp} {s:aE} {E:aG->aE->Prop} {Q:Unit->aE->Prop},
  Sat C (U7 m n f::l) s->(∀s',Sat C (U7 m n (λi=>if i=j then v else f i)::l) s'->Q () s')->a6 (bc C) A (oA (.ref m) (.int j t)<|.int v u) Q E s
inductive IE
 |ci (i:Int) |cn |cb (b:Bool) |cs (x:Str) |cy (b:List UInt8) |loc (k:Nat) |fb (x:Str) |kB (v:AV) |attr (o:IE) (x:Nat)
 |bin (op:Operator) (a b:IE) |neg (a:IE) |cmp (op:CmpOp) (a b:IE) |Ro (a ls:IE) |IQ (op:CmpOp) (b ls:IE)
 |not (a:IE) |bl (r:Bool) (es:IE) |ite (t a b:IE) |item (o i:IE) |cut (o e:IE) |slc (e:IE) |Mx |tup (es:IE) |lst (es:IE)
 |call (f:Nat) (es:IE) |cls (c:Nat) (es:IE) |blt (n:Nat) (es:IE) |meth (o:IE) (x:Nat) (es:IE) |oth (e:Expr) |nil |cons (e es:IE) |bad
noncomputable def mH(e:Expr):Bool:=(D7 e).isSome
noncomputable def o5(e:Expr):Bool:=match qO e with
 |some (f,[],[],_)=>(eS f).isNone
 |_=>ah
noncomputable def xA(x:bI):Nat:=FU.idxOf x
noncomputable def xM(x:bI):Nat:=sJ.idxOf x
noncomputable def kM(n:Nat):aG:=(gX[n]?.map (·.2)).getD .none
noncomputable def nj{α:Type}(o:Option α)(k:α->IE)(e:IE):IE:=match o with |some x=>k x |none=>e
noncomputable def o6(x:bI):Option Nat:=gX.findIdx? λe=>e.1==x
def A4(x:bI):IE:=nj (vM.lookup x) (λv=>.kB<|.int v.1)<|nj (oQ.lookup x) (λa=>.kB<|.raw<|.ref a)<|nj (o6 x) (λn=>.kB<|.raw<|kM n) .bad
noncomputable def IU(b:Bool)(e:IE):IE:=match b with |true=>e |false=>.bad
noncomputable def IV(b:Bool)(e e':IE):IE:=match b with |true=>e |false=>e'
def D4(ns gs:List bI)(x:bI):IE:=IV (ns.contains x) (.loc<|ns.idxOf x)<|IV (gs.contains x) (A4 x)<|.fb x
def IW(ns gs:List bI)(x:bI)(es:IE):IE:=
 IU (!(ns.contains x)&&gs.contains x) (nj (oQ.lookup x) (λa=>IV (vQ.contains a) (.call a es)<|IU (AE.contains a)<|.cls a es)<|nj (o6 x) (λn=>.blt n es) .bad)
noncomputable def OJ:Const->IE
 |.int i=>.ci i |.none=>.cn |.bool b=>.cb b |.str x=>.cs x |.bytes b=>.cy b |_=>.bad
noncomputable def My:List lK->IE->IE
 |op::ops,.cons b bs=>.IQ op b<|My ops bs
 |[],.nil=>.nil
 |_,_=>.bad
noncomputable def VZ(ops:List lK)(bs:List Expr)(a bs':IE):IE:=IU (!ZV ops bs&&ops.length==bs.length) (match ops,bs' with
 |[op],.cons b .nil=>.cmp op a b
 |_,_=>.Ro a<|My ops bs')
noncomputable def qbt(op:UnaryOp)(a:IE):IE:=match op with |.USub=>.neg a |.Not=>.not a |_=>.bad
noncomputable def Pc(o' i':IE):IE:=match i' with |.slc e=>.cut o' e |_=>.bad
noncomputable def D5(i:Expr)(o' i':IE):IE:=match mH i with |true=>Pc o' i' |false=>.item o' i'
noncomputable def FX(a b c:Option Expr)(e:IE):IE:=match a with
 |none=>match b with
  |some _=>match c with |none=>.slc e |some _=>.bad
  |none=>.bad
 |some _=>.bad
noncomputable def IX(o':IE)(x:Nat)(es:IE):IE:=match o' with |.attr o' _=>.meth o' x es |_=>.bad
def IY(ns gs:List bI)(f:Expr)(f':IE)(xs:List Expr)(es:IE)(kws:List xP)(p:Pos):IE:=match eS f with
 |some r=>IU (kws.isEmpty&&noStar xs&&decide (xs.length<29))<|IW ns gs r.1 es
 |none=>match mU f with
  |some r=>IU ((kws.isEmpty&&noStar xs&&decide (xs.length<29))&&(o5 r.1&&(r.2.2.endLine==p.line)))<|IX f' (xM r.2.1) es
  |none=>.bad
noncomputable def Mz(ks:List (Option Expr))(vs:List Expr):IE:=match ks,vs with
 |[],[]=>.Mx
 |_,_=>.bad
mutual
def tr(ns gs:List bI):Expr->IE
 |.Constant c _ _=>OJ c
 |.Name x _=>D4 ns gs x
 |.Attribute o nm _=>IU (o5 o)<|.attr (tr ns gs o)<|xA nm
 |.BinOp a op b _=>.bin op (tr ns gs a)<|tr ns gs b
 |.UnaryOp op a _=>qbt op<|tr ns gs a
 |.Compare a ops bs _=>VZ ops bs (tr ns gs a)<|Ak ns gs bs
 |.BoolOp op vs _=>.bl (op== .Or)<|Ak ns gs vs
 |.IfExp t a b _=>.ite (tr ns gs t) (tr ns gs a)<|tr ns gs b
 |.Subscript o i _=>D5 i (tr ns gs o)<|tr ns gs i
 |.Tuple xs _ _=>IU (noStar xs)<|.tup<|Ak ns gs xs
 |.List xs _=>IU (noStar xs)<|.lst<|Ak ns gs xs
 |.Dict ks vs _=>Mz ks vs
 |.Slice a b c _=>FX a b c<|tro ns gs b
 |.Call f xs kws p=>IY ns gs f (tr ns gs f) xs (Ak ns gs xs) kws p
 |.Lambda a b c d=>.oth<|.Lambda a b c d
 |.ListComp a b c d=>.oth<|.ListComp a b c d
 |_=>.bad
def Ak(ns gs:List bI):List Expr->IE
 |[]=>.nil
 |e::es=>.cons (tr ns gs e)<|Ak ns gs es
def tro(ns gs:List bI):Option Expr->IE
 |none=>.cn
 |some e=>tr ns gs e
end
noncomputable def isN:AV->Option Bool
 |.none=>ae ah
 |.raw _=>aq
 |.opt _=>aq
 |_=>ae ao
noncomputable def rR(i j:Int):Prop:=(0<=j/\j<=1000000)/\i.natAbs<2 ^ 64
noncomputable def Z5(op:qz)(i j:Int)(k:Int->VC):VC:=match op with
 |.Add=>k<|i+j
 |.Sub=>k<|i-j
 |.Mult=>.nd (OA i j)<|k<|i*j
 |.LShift=>.nd (rR i j)<|k<|i*2 ^ j.toNat
 |.RShift=>.nd (decide (0<=j)=ah)<|k<|i.fdiv<|2 ^ j.toNat
 |.BitAnd=>k<|aO i j
 |.BitOr=>k<|dM i j
 |.Mod=>.nd (j≠0)<|k<|i.fmod j
 |_=>.ff
def qbu(op:qz)(b:List UInt8)(y:AV)(k:AV->VC):VC:=match op with
 |.Mult=>HI b λx=>fZ y λj=>.nd (0<=j/\j<=1000000)<|k<|.bytes<|aS j.toNat x
 |.Add=>sL y λc=>.nd (b.length+c.length<=1000000)<|k<|.bytes<|b++c
 |_=>.ff
def V0(op:qz)(r:Nat)(y:AV)(hp:List AO)(k:AV->List AO->VC):VC:=aX hp[r]? λo=>Eo o λxs=>match op with
 |.Mult=>fZ y λj=>HI xs λv=>.nd (0<=j/\j<=1000000)<|k (.ref hp.length)<|hp++[.lst<|aS j.toNat v]
 |.Add=>oZ y λr2=>aX hp[r2]? λo2=>Eo o2 λys=>.nd (xs.length+ys.length<=1000000)<|k (.ref hp.length)<|hp++[.lst<|xs++ys]
 |_=>.ff
def V1(op:qz)(x y:AV)(hp:List AO)(k:AV->List AO->VC):VC:=match x with
 |.int i=>fZ y λj=>Z5 op i j λx=>k (.int x) hp
 |.bytes b=>qbu op b y λv=>k v hp
 |.ref r=>V0 op r y hp k
 |_=>.ff
noncomputable def V2(v:AV):AV->Option Bool
 |.int j=>match v with |.int i=>ae (j==i) |_=>aq
 |.str j=>match v with |.str i=>ae (j==i) |_=>aq
 |_=>aq
def V3(v:AV):List AV->(Bool->VC)->VC
 |[],k=>k ao
 |x::xs,k=>aX (V2 v x) λb=>V3 v xs λc=>k<|b||c
noncomputable def Rp:aG->AV
 |.int i _=>.int i
 |.str x _=>.str x
 |.none=>.none
 |v=>.raw v
def IZ(a:br):Option (List AV):=(vN.lookup a).map (·.map Rp)
noncomputable def V4(op:lK)(i j:Int)(k:Bool->VC):VC:=match op with
 |.Lt=>.fk (i<j) (k ah)<|k ao
 |.LtE=>.fk (i<=j) (k ah)<|k ao
 |.Gt=>.fk (j<i) (k ah)<|k ao
 |.GtE=>.fk (j<=i) (k ah)<|k ao
 |.Eq=>.fk (i=j) (k ah)<|k ao
 |.NotEq=>.fk (i=j) (k ao)<|k ah
 |_=>.ff
noncomputable def Rq(op:lK)(b:Bool):Option Bool:=match op with
 |.Eq=>ae b
 |.NotEq=>ae<|!b
 |_=>aq
noncomputable def V5(op:lK)(b:Bool):Option Bool:=match op with
 |.Is=>ae b
 |.IsNot=>ae<|!b
 |_=>aq
noncomputable def Rt(op:lK):Option Bool:=match op with
 |.In=>ae ao
 |.NotIn=>ae ah
 |_=>aq
noncomputable def V6(op:lK)(x y:List UInt8)(k:Bool->VC):VC:=match op with
 |.Eq=>.fk (x=y) (k ah)<|k ao
 |.NotEq=>.fk (x=y) (k ao)<|k ah
 |_=>.ff
def Ru(op:lK)(a b:AV)(k:Bool->VC):VC:=match b with
 |.int j=>fZ a λi=>V4 op i j k
 |.str y=>FW a λx=>aX (Rq op<|x==y) k
 |.bytes y=>sL a λx=>V6 op x y k
 |.none=>aX (isN a) λp=>aX (V5 op p) k
 |.tup xs=>aX (Rt op) λn=>rP (c7 xs.length 1000)<|V3 a xs λb=>k<|n ^^ b
 |.raw (.ref t)=>aX (Rt op) λn=>aX (IZ t) λxs=>V3 a xs λb=>k<|n ^^ b
 |_=>.ff
noncomputable def AV.eq0:AV->Bool
 |.int _=>ah
 |.bool _=>ah
 |.none=>ah
 |.str _=>ah
 |.bytes _=>ah
 |_=>ao
def AV.eqb:AV->Bool
 |.tup xs=>xs.all AV.eq0
 |x=>x.eq0
abbrev AV.CR(xs:List AV):Bool:=xs.all AV.eqb
noncomputable def B9:AO->Option (List AV)
 |.lst xs=>ae xs
 |.ll xs=>ae xs
 |_=>aq
noncomputable def V7(op:lK)(b:Bool):Option Bool:=match op with
 |.Eq=>ae b
 |.NotEq=>ae<|!b
 |.Is=>ae b
 |.IsNot=>ae<|!b
 |_=>aq
def V8(N:Nat)(op:lK)(x y:AV)(hp:List AO)(k:Bool->VC):VC:=match y with
 |.bool q=>oY x λp=>aX (V7 op<|p==q) k
 |.ref r=>rP (c7 1 N) <| oZ x λq=>aX hp[q]? λo1=>aX hp[r]? λo2=>aX (B9 o1) λxs=>aX (B9 o2) λys=>aX (Rq op ah) λb=>.nd ((xs=ys/\AV.CR xs=ah)/\xs.length<=1000000)<|k b
 |_=>Ru op x y k
noncomputable def A5(N:Nat)(o:AO)(j:Int)(k:AV->VC):VC:=match o with
 |.lst xs=>.nd ((decide (0<=j)&&decide (j<2 ^ 63))=ah)<|aX xs[j.toNat]? k
 |.ba bs=>.nd ((-(bs.length:Int)<=j/\j<bs.length)/\bs.length<=1000000)<|aX bs[(if j<0 then j+bs.length else j).toNat]? λx=>k<|.int x.toNat
 |.tab n f=>.nd ((0<=j/\j<n)/\CP N n f j.toNat)<|k<|.int (f j.toNat:Nat)
 |_=>.ff
noncomputable def I0(N:Nat)(x:AV)(j:Int)(hp:List AO)(k:AV->VC):VC:=match x with
 |.ref r=>aX hp[r]? λo=>A5 N o j k
 |.tup xs=>rP (decide (0<=j)&&decide (j<2 ^ 63))<|aX xs[j.toNat]? k
 |.bytes b=>.nd ((0<=j/\j<b.length)/\b.length<=1000000)<|k<|.int (b.getD j.toNat 0).toNat
 |_=>.ff
noncomputable def qbw:AO->Option Nat
 |.lst xs=>ae xs.length
 |.ba xs=>ae xs.length
 |_=>aq
noncomputable def V9(x:AV)(hp:List AO):Option Nat:=match x with
 |.ref r=>hp[r]?.bind qbw
 |.bytes b=>ae b.length
 |.tup b=>ae b.length
 |_=>aq
def I1:List AV->(List UInt8->VC)->VC
 |[],k=>k []
 |x::xs,k=>fZ x λi=>.nd (0<=i/\i<256)<|I1 xs λbs=>k<|bz i.toNat::bs
def Rv(o:AO)(k:List UInt8->VC):VC:=match o with
 |.ba b=>.nd (b.length<=1000000)<|k b
 |.lst xs=>rP (c7 xs.length 1000000)<|I1 xs k
 |_=>.ff
def I2(x:AV)(hp:List AO)(k:List UInt8->VC):VC:=match x with
 |.ref r=>aX hp[r]? λo=>Rv o k
 |.bytes b=>k b
 |_=>.ff
noncomputable def Es(x:AV)(t:String):Option Bool:=match x with
 |.int _=>if t="int" then ae ah else if t="bool" then ae ao else aq
 |.tup _=>if t="tuple" then ae ah else aq
 |_=>aq
noncomputable def LD(v:AV)(k:String->VC):VC:=match v with |.raw (.type t)=>k t |_=>.ff
noncomputable def qbx:AO->Option (List AV)
 |.lst xs=>ae xs
 |_=>aq
def Pd(x:AV)(hp:List AO):Option (List AV):=match x with
 |.ref r=>hp[r]?.bind qbx
 |.raw (.ref t)=>IZ t
 |_=>aq
noncomputable def Pe:Bool->Int
 |true=>1
 |false=>0
def Wa(n:Nat)(vs:List AV)(hp:List AO)(k:AV->List AO->VC):VC:=match n with
 |0=>HI vs λx=>oY x λb=>k (.int<|Pe b) hp
 |1=>HI vs λx=>aX (V9 x hp) λn=>.nd (n<=1000000)<|k (.int n) hp
 |3=>HI vs λx=>I2 x hp λb=>k (.bytes b) hp
 |4=>wc vs<|k (.ref hp.length)<|hp++[.ba []]
 |5=>on2 vs λx y=>LD y λt=>aX (Es x t) λb=>k (.bool b) hp
 |6=>on2 vs λx y=>fZ x λi=>fZ y λj=>k (.int<|if j<i then j else i) hp
 |7=>HI vs λx=>fZ x λi=>k (.int<|if i<0 then-i else i) hp
 |8=>HI vs λx=>aX (Pd x hp) λxs=>.nd (xs.length<=1000000)<|k (.ref hp.length)<|hp++[.lst xs]
 |_=>.ff
def bmW(o:AO)(y:Nat)(r:Nat)(vs:List AV)(hp:List AO)(k:AV->List AO->VC):VC:=match o with
 |.ba bs=>match b0 y ij with
  |true=>HI vs λx=>fZ x λi=>.nd ((0<=i/\i<256)/\bs.length<1000000)<|k .none<|hp.set r<|.ba<|bs++[bz i.toNat]
  |false=>rP (b0 y oO)<|HI vs λx=>sL x λmore=>.nd (bs.length+more.length<=1000000)<|k .none<|hp.set r<|.ba<|bs++more
 |.lst xs=>rP (b0 y ij)<|HI vs λv=>.nd (xs.length<1000000)<|k .none<|hp.set r<|.lst<|xs++[v]
 |.dct f=>rP (b0 y AD)<|on2 vs λx d=>fZ x λi=>fZ d λj=>.nd (0<=i)<|k (.int<|match f i.toNat with |some p=>(p:Nat) |none=>j) hp
 |_=>.ff
noncomputable def MA:AO->Nat
 |.ba _=>1
 |.lst _=>2
 |.dct _=>3
 |_=>0
def I3(k y:Nat):Bool:=match k with
 |1=>b0 y ij||b0 y oO
 |2=>b0 y ij
 |3=>b0 y AD
 |_=>ao
abbrev I4(o:AO)(y:Nat):Bool:=I3 (MA o) y
noncomputable def ry:AV->Bool
 |.raw _=>ao
 |_=>ah
noncomputable def ifH(v:AV):Bool->Option AV
 |true=>ae v
 |false=>aq
def A6:Option (Option AV)->Option AV
 |some (ae v)=>ifH v<|ry v
 |_=>aq
def qX(c:Nat)(ws:List (Option AV))(y:Nat):Option AV:=match xY (qQ c) y with
 |some i=>A6 ws[i]?
 |none=>aq
noncomputable def wg(o:AO)(k:Nat->List (Option AV)->VC):VC:=match o with |.inst c ws=>k c ws |_=>.ff
theorem CS(h:(wg o k).H):∃c ws,o= .inst c ws/\(k c ws).H:=by cases o<;>first |exact(vE _ _ rfl h) |exact cq h
theorem wi{P:Prop}(h:(wg o k).H)(q:∀c ws,o= .inst c ws->(k c ws).H->P):P:=let⟨c,ws,e,h⟩:=CS h;q c ws e h
noncomputable def A7(p:Pm)(f:Nat)(vs:List AV)(hp:List AO)(k:AV->List AO->VC):VC:=.cl p.N f vs hp λr hp'=>r.el (λv=>k v hp') λc=>p.X c hp'
noncomputable def OK(N:Nat)(k:Nat->VC):VC:=match N with |n+1=>k n |0=>.ff
noncomputable def AV.un(v:AV):AV:=match v with |.opt o=>(match o with |Option.none=>.none |some i=>.int i) |v=>v
def Pf(N:Nat)(i y:Nat)(o:AO)(hp:List AO)(k:AV->List AO->VC):VC:=wg o λc ws=>match qX c ws y with
 |some v=>k v.un hp
 |none=>rP (b0 y Ir&&b0 c 1000)<|OK N λn=>.cl n 947 [.ref i] hp λr hp'=>r.el (λv=>rP (ry v)<|k v hp') λz=>.ff
def Wb(N:Nat)(c:Nat)(vs:List AV)(hp:List AO)(k:AV->List AO->VC):VC:=aX (mt c 0) λf=>OK N λn=>.cl n f (.ref hp.length::vs) (hp++[.inst c<|(qQ c).map λz=>aq]) λr hp'=>r.el (λv=>aX (isN v) λb=>rP b<|k (.ref hp.length) hp') λz=>.ff
noncomputable def qby:AO->Option (List AV)
 |.lst xs=>ae xs
 |.IL vs _=>ae<|vs.map .raw
 |_=>aq
def Wc(x y:AV)(hp:List AO)(k:AV->List AO->VC):VC:=fZ y λj=>match x with
 |.ref r=>aX hp[r]? λo=>aX (qby o) λxs=>.nd (0<=j/\xs.length<=1000000)<|k (.ref hp.length)<|hp++[.lst<|xs.take j.toNat]
 |.bytes b=>.nd (0<=j/\b.length<=1000000)<|k (.bytes<|b.take j.toNat) hp
 |_=>.ff
noncomputable def Gx(r:Nat)(hp:List AO)(k:AV->VC):VC:=aX hp[r]? λo=>match o with |.fb (ae v)=>k v |_=>.ff
noncomputable def Ca(o:AO):Option Nat:=match o with |.inst c _=>ae c |.own c _=>ae c |_=>aq
structure XE where
 v:List AO->(AV->List AO->VC)->VC
 t:List AO->(Bool->List AO->VC)->VC
 l:List AO->(List AV->List AO->VC)->VC
 c:AV->List AO->(Bool->List AO->VC)->VC
 b:Bool->List AO->(Bool->List AO->VC)->VC
 isNil:Bool
def yl(f:List AO->(AV->List AO->VC)->VC):XE:=⟨f,λhp k=>f hp λx hp=>oY x λp=>k p hp,λz z=>.ff,λz z z=>.ff,λz z z=>.ff,ao⟩
noncomputable def ofT(f:List AO->(Bool->List AO->VC)->VC):XE:=⟨λz z=>.ff,f,λz z=>.ff,λz z z=>.ff,λz z z=>.ff,ao⟩
def Rw(v:AV):XE:=yl λhp k=>k v hp
def iR(p:Pm)(fr:Frs):IE->XE
 |.ci i=>Rw<|.int i
 |.cn=>Rw .none
 |.cb b=>Rw<|.bool b
 |.cs x=>Rw<|.str x
 |.cy x=>Rw<|.bytes x
 |.loc j=>yl λhp k=>aX fr[j]? λo=>aX o λv=>k v hp
 |.fb x=>yl λhp k=>aX (p.cm.lookup x) λr=>Gx r hp λv=>k v hp
 |.kB v=>Rw v
 |.attr o y=>yl λhp k=>(iR p fr o).v hp λx hp=>oZ x λi=>aX hp[i]? λob=>Pf p.N i y ob hp k
 |.bin op a b=>yl λhp k=>(iR p fr a).v hp λx hp=>(iR p fr b).v hp λy hp=>V1 op x y hp k
 |.neg a=>yl λhp k=>(iR p fr a).v hp λx hp=>fZ x λi=>k (.int<|-i) hp
 |.cmp op a b=>yl λhp k=>(iR p fr a).v hp λx hp=>(iR p fr b).v hp λy hp=>V8 p.N op x y hp λp=>k (.bool p) hp
 |.Ro a ls=>ofT λhp k=>(iR p fr a).v hp λx hp=>(iR p fr ls).c x hp k
 |.IQ op b ls=>⟨λz z=>.ff,λz z=>.ff,λz z=>.ff,λx hp k=>(iR p fr b).v hp λy hp=>Ru op x y λq=>match(iR p fr ls).isNil with
  |true=>k q hp
  |false=>match q with
   |true=>(iR p fr ls).c y hp k
   |false=>k ao hp,λz z z=>.ff,ao⟩
 |.not a=>ofT λhp k=>(iR p fr a).t hp λp hp=>k (!p) hp
 |.bl r es=>⟨λhp k=>(iR p fr es).c (.bool r) hp λq hp=>k (.bool q) hp,λhp k=>(iR p fr es).b r hp k,λz z=>.ff,λz z z=>.ff,λz z z=>.ff,ao⟩
 |.ite t a b=>⟨λhp k=>(iR p fr t).t hp λq hp=>match q with
  |true=>(iR p fr a).v hp k
  |false=>(iR p fr b).v hp k,λz z=>.ff,λz z=>.ff,λz z z=>.ff,λz z z=>.ff,ao⟩
 |.item o i=>yl λhp k=>(iR p fr o).v hp λx hp=>(iR p fr i).v hp λy hp=>fZ y λj=>I0 p.N x j hp λv=>k v hp
 |.cut o e=>yl λhp k=>(iR p fr o).v hp λx hp=>(iR p fr e).v hp λy hp=>Wc x y hp k
 |.Mx=>yl λhp k=>k (.ref hp.length)<|hp++[.dct λz=>aq]
 |.tup es=>yl λhp k=>(iR p fr es).l hp λvs hp=>rP (c7 vs.length 1000)<|k (.tup vs) hp
 |.lst es=>yl λhp k=>(iR p fr es).l hp λvs hp=>rP (c7 vs.length 1000)<|k (.ref hp.length)<|hp++[.lst vs]
 |.call f es=>yl λhp k=>(iR p fr es).l hp λvs hp=>A7 p f vs hp k
 |.cls c es=>yl λhp k=>(iR p fr es).l hp λvs hp=>Wb p.N c vs hp k
 |.blt n es=>yl λhp k=>(iR p fr es).l hp λvs hp=>Wa n vs hp k
 |.meth o y es=>yl λhp k=>(iR p fr o).v hp λx hp=>match x with
  |.ref i=>aX hp[i]? λob=>(match Ca ob with
   |some c=>aX (mt c y) λf=>(iR p fr es).l hp λvs hp=>A7 p f (.ref i::vs) hp k
   |none=>rP (I4 ob y)<|(iR p fr es).l hp λvs hp=>aX hp[i]? λRx=>rP (b0 (MA Rx)<|MA ob)<|bmW Rx y i vs hp k)
  |.int i=>rP (b0 y mZ)<|(iR p fr es).l hp λvs hp=>wc vs<|k (.int (fA i:Nat)) hp
  |.raw (.ref c)=>aX (cmt c y) λf=>(iR p fr es).l hp λvs hp=>A7 p f vs hp k
  |_=>.ff
 |.nil=>⟨λz z=>.ff,λz z=>.ff,λhp k=>k [] hp,λz z z=>.ff,λr hp k=>k (!r) hp,ah⟩
 |.cons e es=>⟨λz z=>.ff,λz z=>.ff,λhp k=>(iR p fr e).v hp λv hp=>(iR p fr es).l hp λvs hp=>k (v::vs) hp,λx hp k=>oY x λr=>(iR p fr e).v hp λv hp=>oY v λq=>match(iR p fr es).isNil with
  |true=>k q hp
  |false=>match q==r with
   |true=>k q hp
   |false=>(iR p fr es).c (.bool r) hp k,λr hp k=>(iR p fr e).t hp λq hp=>match q==r with
  |true=>k r hp
  |false=>(iR p fr es).b r hp k,ao⟩
 |.oth e=>yl λhp k=>p.O e fr hp k
 |.slc _=>yl λz z=>.ff
 |.bad=>yl λz z=>.ff
section
variable{C:Cx}{A:c5}{s:aE}{env:DO}{e t:Expr}{E:aG->aE->Prop}{op:lK}{x:bI}
theorem wj(h:o5 o=ah):attributeBase o x env w=w:=by
 cases o with
 |Call f as ks p=>
  cases as with
  |cons=>cases f<;>rfl
  |nil=>
   cases ks with
   |cons=>cases f<;>rfl
   |nil=>cases f<;>first |rfl |contradiction
 |_=>rfl
theorem Wd(h:a6 (bc C) A (eval a env) (λv s1=>aC (bc C) A (unaryOp .USub v) Q E s1) E s):a6 (bc C) A (eval (.UnaryOp .USub a pos) env) Q E s:=by
 have e1:eval (.UnaryOp .USub a pos) env=(do let v<-eval a env;mL pos;iO [v] (unaryOp .USub v)):=rfl;rwa[af e1,mC h λv s1 h1=>ou<|bJ<|a6.of h1]
theorem Ry(hm:Hu op r=ao)(h:a6 (bc C) A (eval l env) (λa s1=>a6 (bc C) A (eval r env) (λb s2=>aC (bc C) A (la op a b) Q E s2) E s1) E s):a6 (bc C) A (eval (.Compare l [op] [r] pos) env) Q E s:=by
 rwa[af (eval_Compare1 _ _ _ _ _)<|af (HR hm) ?_,mC h λa s1 h1=>IJ h1 λb s2 h2=>ou<|iJ<|a6.of h2]
theorem Rz(hm:Hu op r=ao)(h:a6 (bc C) A (eval l env) (λa s1=>a6 (bc C) A (eval r env) (λb s2=>aC (bc C) A (la op a b) (λc s3=>aC (bc C) A (DV c) Q E s3) E s2) E s1) E s):a6 (bc C) A (lg (.Compare l [op] [r] pos) env whole) Q E s:=by
 rwa[af (isTrue_Compare1 _ _ _ _ _ _)<|af (HR hm) ?_,mC h λa s1 h1=>IJ h1 λb s2 h2=>ou<|aR<|iJ<|a6.of<|mE h2 λc s3 h3=>bJ<|a6.of h3]
def MB(C:Cx)(A:c5)(env:DO)(E:aG->aE->Prop)(Q:Bool->aE->Prop):List lK->List Expr->aG->aE->Prop
 |op::ops,e::es,v,s=>a6 (bc C) A (eval e env) (λw s1=>aC (bc C) A (la op v w) (λx s2=>aC (bc C) A (DV x) (λt s3=>if ops.isEmpty then Q t s3 else if t then MB C A env E Q ops es w s3 else Q ao s3) E s2) E s1) E s
 |_,_,_,_=>False
theorem Pg:∀{ops:List lK} {es:List Expr} {v:aG} {s:aE},ops.length=es.length->MB C A env E Q ops es v s->a6 (bc C) A (testChain p v ops<|OB es env) Q E s
 |[],_,_,_,_,h=>by cases(by assumption:List Expr)<;>exact h.elim
 |_::_,[],_,_,_,h=>h.elim
 |[op],[e],v,s,_,h=>aR<|bJ<|b8 h (λw s1 h1=>aR<|fY<|aR<|iJ<|a6.of<|cP h1 (λx s2 h2=>bJ<|a6.of<|cP h2 (λt s3 h3=>h3) λz z x=>x) λz z x=>x) λz z x=>x
 |[op],_::_::_,_,_,hl,_=>by cases hl
 |op::op2::ops,e::es,v,s,hl,h=>by
  erw [aR<|bJ<|b8 h (λw s1 h1=>aR<|fY<|aR<|bJ<|a6.of<|cP h1 (λx s2 h2=>?_) λz z x=>x) λz z x=>x,bh<|wpAny_release'<|aR<|bJ<|a6.of<|cP h2 (λt s3 h3=>?_) λz z x=>x]
  cases t with
  |false=>exact aY (by simpa using h3)
  |true=>exact Pg (by simpa using hl) (by simpa using h3)
theorem I5(hm:ZV ops es=ao)(hl:ops.length=es.length)(h:a6 (bc C) A (eval l env) (λa s1=>MB C A env E Q ops es a s1) E s):a6 (bc C) A (lg (.Compare l ops es pos) env whole) Q E s:=by
 have e1:lg (.Compare l ops es pos) env whole=(do testChain pos (<-eval l env) ops (markedEach ops es<|OB es env)):=rfl;rwa[af e1<|af (markedEach_of_false ops es _ hm) ?_,mC h λa s1 h1=>Pg hl h1]
theorem MC(h:a6 (bc C) A (lg t env<|eval t env) (λp s1=>if p then a6 (bc C) A (eval a env) Q E s1 else a6 (bc C) A (eval b env) Q E s1) E s):a6 (bc C) A (eval (.IfExp t a b pos) env) Q E s:=by
 erw [af (arm_eval_IfExp _ _ _ _ _),mC h λp s1 h1=>?_];cases p<;>(trivial)
theorem RA(h:a6 (bc C) A (lg a env<|eval a env) (λp s1=>Q (!p) s1) E s):a6 (bc C) A (lg (.UnaryOp .Not a pos) env whole) Q E s:=by
 rwa[af (arm_isTrue_UnaryOp _ _ _ _),mC h λp s1 h1=>aY h1]
theorem Gy(h:Q (bo== .And) s):a6 (bc C) A (Lh bo [] env) Q E s:=aY h
theorem Gz(h:a6 (bc C) A (lg a env<|eval a env) (λp s1=>if p=(bo== .Or) then Q p s1 else a6 (bc C) A (Lh bo rest env) Q E s1) E s):a6 (bc C) A (Lh bo (a::rest) env) Q E s:=by
 erw [af (arm_allTrue_cons _ _ _ _),mC h λp s1 h1=>?_];cases bo<;>cases p<;>first |exact h1 |exact aY h1
theorem MD(h:a6 (bc C) A (Lh bo vs env) Q E s):a6 (bc C) A (lg (.BoolOp bo vs pos) env whole) Q E s:=by rwa[af (arm_isTrue_BoolOp _ _ _ _ _),h]
theorem I6(he:lg e env (eval e env)=(do let v<-eval e env;mL e.pos;iO [v] (DV v)))(h:a6 (bc C) A (eval e env) (λv s1=>aC (bc C) A (DV v) Q E s1) E s):a6 (bc C) A (lg e env<|eval e env) Q E s:=by
 rwa[af he,mC h λv s1 h1=>ou<|bJ<|a6.of h1]
theorem RB(h:a6 (bc C) A (eval o env) (λv s1=>a6 (bc C) A (eval e env) (λi s2=>aC (bc C) A (du o e v i) Q E s2) E s1) E s):a6 (bc C) A (eval (.Subscript o e pos) env) Q E s:=by
 rwa[af (qeY _ _ _),mC h λv s1 h1=>IJ h1 λi s2 h2=>ou<|a6.of h2]
def rS(C:Cx)(A:c5)(env:DO)(E:aG->aE->Prop):List Expr->(List aG->aE->Prop)->aE->Prop
 |[],Q,s=>Q [] s
 |e::es,Q,s=>a6 (bc C) A (eval e env) (λv s1=>rS C A env E es (λvs s2=>Q (v::vs) s2) s1) E s
theorem ym(e:Expr)(es:List Expr)(hn:noStar [e]=ah):fD pos (de (e::es) env)=(ao,eval e env)::fD pos (de es env):=by cases e<;>first |rfl |contradiction
theorem rS.spl:∀{Q:List aG->aE->Prop} {s:aE},noStar es=ah->rS C A env E es Q s->a6 (bc C) A (uy<|fD pos<|de es env) Q E s:=by
 induction es with
 |nil=>
  intro Q s _ h;exact rJ h
 |cons e es ih=>
  intro Q s hn h;refine aT (aQ.mp<|(lQ e es).symm.trans hn) λh0 hs=>?_;have he:=ym (pos:=pos) (env:=env) e es h0;exact kG (b8 h (λv s1 h1=>ih hs h1) λz z x=>x) he
theorem rS.mono:∀{es:List Expr} {Q Q':List aG->aE->Prop} {s:aE},rS C A env E es Q s->(∀ws s,Q ws s->Q' ws s)->rS C A env E es Q' s
 |[],_,_,_,h,k=>k _ _ h
 |_::es,_,_,_,h,k=>b8 h (λv s1 h1=>rS.mono (es:=es) h1 λws s=>k (v::ws) s) λz z x=>x
theorem wk:noStar es=ah->∀x∈fD pos (de es env),x.1=ao:=by
 induction es with
 |nil=>
  intro _ x h;contradiction
 |cons e es ih=>
  intro hn x h;refine aT (aQ.mp<|(lQ e es).symm.trans hn) λh0 hs=>?_;have he:=ym (pos:=pos) (env:=env) e es h0;rw[he] at h;rcases aV.mp h with rfl |h
  . rfl
  . exact ih hs x h
theorem iK(hn:noStar es=ah):(fD pos<|de es env).any (·.1)=ao:=by
 erw [af (propext ux),λx hx=>?_,af (wk hn x hx)];decide
theorem CU(hn:noStar es=ah)(hl:es.length<29):DW (es.length+0) (fD pos<|de es env) []=ah:=by
 unfold DW
 have h1:(fD pos<|de es env).all (!·.1)=ah:=by
  erw [af (propext a4),λx hx=>?_,af (wk hn x hx)];rfl
 erw [af h1];simp;exact‹a<29->a<30› hl
end
theorem Sat.grow(H:Sat C l s)(k:∀b o',s.heap.get? b=ae o'->h'.get? b=ae o')(e:h'.get? s.heap.objs.size=ae o):Sat C (pt s.heap.objs.size (norm o)::l) {s with heap:=h',toks:=t}:=by
 have h2:=H.ext (h':=h') (t:=t) k;erw [nn λzn=>?_,aT H λf aH=>?_,-H,aK aH λg hg th=>?_,-aH];obtain⟨f',-⟩:=h2;erw [zn,-zn,⟨f',(s.heap.objs.size,norm o)::g,⟨[_],g,rfl,rfl,hg⟩,?_,λx hx=>?_,λx hx=>?_⟩]
 . refine af bW (af (propext cO) ?_)
   erw [⟨λq=>?_,th.nodup⟩,aK (dW.mp q) λx hx e=>?_];obtain⟨o',e',-⟩:=th.at_ x hx;have:=lr e';rw[e] at this;exact absurd this<|nB _
 . rcases aV.mp hx with rfl |hx
   . exact(bV o e rfl)
   . rwa[aK (th.at_ x hx) λo' e' n=>?_,(bV o' (k _ _ e') n)]
 . rcases aV.mp hx with rfl |hx
   . exact f.stays.fresh
   . exact th.new x hx
theorem pQ(H:Sat C l s):Sat C (jJ s.heap.objs.size xs::l) {s with heap:=s.heap.push {cls:=.type "list",data:=.seq xs.toArray},toks:=t'}:=by
 have H2:=H.alloc (o:={cls:=.type "list",data:=.seq xs.toArray}) (t:=t') rfl;rw[bU<|by exact not_eq_of_beq_eq_false rfl] at H2;exact H2.imp λg hg=>⟨_,hg⟩
theorem ME(v:aG)(n:Nat):qaR (λx1 x2=>x1++x2) #[] (aS (if(#[v]:Array aG).isEmpty=ah then 0 else n) #[v])=(aS n v).toArray:=by
 erw [af (if_neg<|by simp)]
 induction n with
 |zero=>rfl
 |succ n ih=>
  erw [af d8<|af fE<|af ih<|af d8 ?_,(?_:(aS n v).toArray++[v].toArray=_)]
  (first |exact(eH _ _) |exact congrArg _ (eH _ _) |exact af (eH _ _) rfl)
theorem MF(h0:0<=n)(h1:n<=1000000)(H:Sat C (jJ a [v]::l) s)(q:∀x s',Sat C (jJ x (aS n.toNat v)::jJ a [v]::l) s'->Q (.ref x) s'):
 aC (bc C) A (qw .Mult (.ref a)<|.int n u) Q E s:=by
 have hT:=H.lst.typeIs;refine c4 H.CF λm H2=>?_;have e0:=H2.get (by exact not_eq_of_beq_eq_false rfl)
 refine wpAny_binaryOp_repeat_ref (T:="list") (U:="int") (by rfl) hT (λs'=>nF s' n u) noFill_list_mul F.fills_int_mul F.slot_int_rmul repeat_list F.slot_int_index.lookup
  (call_meets F.slot_int_rmul (nF s n u) F.entry_int_rmul (F.args_int_rmul_2 _ _) (int___rmul___int_list n u a _ m)<|mT e0 rfl hT ?_)
 refine call_meets F.slot_list_mul hT F.entry_list_mul (F.args_list_mul_2 _ _) (qfr a _ m n u (by simp[qan];lia) (by simp;lia)<|by simp[qao,bw];lia) ⟨e0,?_⟩;have e:qaR (λx1 x2=>x1++x2) #[] (aS (if([v].toArray).isEmpty=ah then 0 else n.toNat) [v].toArray)=(aS n.toNat v).toArray:=ME v n.toNat;rwa[af e,q _ _<|pQ H]
theorem MG(hz:xs.length+ys.length<=1000000)(e0:s.heap.get? a=ae {cls:=.type "list",data:=.seq xs.toArray m})(e1:s.heap.get? b=ae {cls:=.type "list",data:=.seq ys.toArray m'})(q:∀x s',(∀l,Sat C l s->Sat C (jJ x (xs++ys)::l) s')->Q (.ref x) s'):aC (bc C) A (qw .Add (.ref a)<|.ref b) Q E s:=by
 rwa[PySem.concat_meets ⟨_,e0,rfl⟩ ⟨_,e1,rfl⟩ noFill_list_add seq_list_add F.slot_list_add F.entry_list_add (F.args_list_add_2 _ _) (qap a b xs.toArray ys.toArray m m' aq aq #[] #[] (by erw [af bw];simp;exact‹a+b<=1000000->a+b<=16777216› hz))<|gp e0 e1 ?_,af (show xs.toArray++ys.toArray=(xs++ys).toArray by simp),q _ _ λl H=>pQ H]
theorem I7(hz:xs.length<=1000000)(H:Sat C (jJ a xs::l) s)(q:∀x s',Sat C (jJ x xs::jJ a xs::l) s'->Q (.ref x) s'):aC (bc C) A (i5 (.type "list") [.ref a]) Q E s:=by
 refine c4 H.CF λm H2=>?_;have e0:=H2.get (by exact not_eq_of_beq_eq_false rfl);refine qfg a (.inl rfl) e0 rfl rfl (λh' c' k e=>q _ _ ?_) (by erw [af bw];simp;exact‹a<=1000000->a<=16777216› hz);have H3:=H.grow (t:=s.toks) k e;rw[bU<|by exact not_eq_of_beq_eq_false rfl] at H3;exact H3.imp λg hg=>⟨_,hg⟩
theorem MH(H:Sat C (Z4 a xs::l) s)(q:Q (.bool ah) s):aC (bc C) A (i5 (.builtin "isinstance") [.ref a,.type "tuple"]) Q E s:=
 IsiPair.isTuple_tuple H.tup (λz z e=>e) q
theorem A8{α:Type}(xs:Array α)(k:Nat)(hk:k<=xs.size):((sliceRange 0 (k:Nat) 1).filterMap (xs[·]?))=xs.toList.take k:=by
 have e:sliceRange (0:Int) (k:Nat) 1=fc k:=by
  have:=qeZ 0 k;simpa using this
 erw [af e]
 induction k with
 |zero=>simp
 |succ k ih=>
  refine af Ot (af List.filterMap_append<|af (ih (by exact‹a+1<=b->a<=b› hk) (by have:=qeZ 0 k;simpa using this))<|af uA ?_)
  congr 1
  cases h:xs[k]? <;>simp[h]
theorem ud(j n:Nat):sliceBounds aq (ae (j:Int)) aq n=(0,((min j n:Nat):Int),1):=by
 have e:sliceBounds aq (ae (j:Int)) aq n=(0,max 0<|min (if(j:Int)<0 then(j:Int)+n else j) n,1):=by kernel_rfl
 rwa[af e<|af (if_neg<|bO.mpr<|aD j)<|af (Int.max_eq_right<|Int.le_min.mpr ⟨aD _,aD _⟩) ?_,congrArg (λx=>((0:Int),x,(1:Int)))<|by omega]
theorem yn{xs:List aG}(h0:0<=j):slicePick xs.toArray aq (ae j) aq=(xs.take j.toNat).toArray:=by
 erw [c4 (c6 h0) λj aH=>?_,!aH];unfold slicePick;erw [af (ud _ _)];dsimp only;rwa[af (A8 _ _<|oi _ _),congrArg _ DX.symm]
section
variable{v:aG}{bs:List UInt8}
theorem We(h:a6 (bc C) A (eval o env) (λov s1=>a6 (bc C) A (eval e env) (λuv s2=>∃T id,cD (.type T) "__getitem__"=cg (ae<|.builtin id)/\
 ({s2 with heap:=s2.heap.push {cls:=.type "slice",data:=.fields #[.none,uv,.none]}}:aE).TypeIs ov T/\aC (bc C) A (ru ov<|.ref s2.heap.objs.size) Q E {s2 with heap:=s2.heap.push {cls:=.type "slice",data:=.fields #[.none,uv,.none]}}) E s1) E s):
 a6 (bc C) A (eval (.Subscript o (.Slice aq (ae e) aq p) pos) env) Q E s:=by
 erw [RB<|Pb h λov s1 h1=>?_,af (arm_eval_Slice _ _ _ _ _),aR (m:=valueOrNone<|evalOpt aq env)<|fL rfl ?_,Qu,(?_:a6 _ _ (eval e env) _ _ _),Pb h1 λuv s2 h2=>?_,dF h2 λT id hl hT hg=>?_,-h2,Qu<|fL rfl ?_,a6.of<|j0 ?_];unfold du;erw [ak,af (LU hT.not_modules),sB hT hl]
 have fin:aC (bc C) A (Ar (.Slice aq (ae e) aq p) ao ov<|.ref s2.heap.objs.size) (λr s₃=>aC (bc C) A (qe0 o ov r>>=λz=>cg r) Q E s₃) E {s2 with heap:=s2.heap.push {cls:=.type "slice",data:=.fields #[.none,uv,.none]}}:=
  qaS (mE hg λr s₃ h₃=>ak<|lL<|au h₃)
 first
  |exact au<|ak fin
  |exact pB<|ak fin
  |exact ak fin
theorem MI(h0:0<=j)(hz:xs.length<=1000000)(H:Sat C (jJ a xs::l) s)(q:∀x s',Sat C (jJ x (xs.take j.toNat)::jJ a xs::l) s'->Q (.ref x) s'):
 ∃T id,cD (.type T) "__getitem__"=cg (ae<|.builtin id)/\
  ({s with heap:=s.heap.push {cls:=.type "slice",data:=.fields #[.none,.int j t,.none]}}:aE).TypeIs (.ref a) T/\aC (bc C) A (ru (.ref a)<|.ref s.heap.objs.size) Q E {s with heap:=s.heap.push {cls:=.type "slice",data:=.fields #[.none,.int j t,.none]}}:=by
 have H1:=H.ext (h':=s.heap.push {cls:=.type "slice",data:=.fields #[.none,.int j t,.none]}) (t:=s.toks) λb o e=>cH _ e;have hl:=H1.lst;rwa[(qJ _ _ Qi hl.typeIs<|Hv hl (nX ..) .none (.int j t) .none (by simp) (q _ _ ?_)<|by rwa[af bw<|af a9 ?_,‹a<=1000000->a<=16777216› hz]),af (yn h0),pQ H1]
theorem I8{xs:List aG}(hc:o.cls= .type "list")(hd:o.data= .seq xs.toArray n)(h0:0<=j)(hz:xs.length<=1000000)(H:Sat C (pt a o::l) s)(q:∀x s',Sat C (jJ x (xs.take j.toNat)::pt a o::l) s'->Q (.ref x) s'):
 ∃T id,cD (.type T) "__getitem__"=cg (ae<|.builtin id)/\
  ({s with heap:=s.heap.push {cls:=.type "slice",data:=.fields #[.none,.int j t,.none]}}:aE).TypeIs (.ref a) T/\aC (bc C) A (ru (.ref a)<|.ref s.heap.objs.size) Q E {s with heap:=s.heap.push {cls:=.type "slice",data:=.fields #[.none,.int j t,.none]}}:=by
 have H1:=H.ext (h':=s.heap.push {cls:=.type "slice",data:=.fields #[.none,.int j t,.none]}) (t:=s.toks) λb o e=>cH _ e;have hl:Heap.IsList (s.heap.push {cls:=.type "slice",data:=.fields #[.none,.int j t,.none]}) a xs.toArray:=⟨o,H1.get (by rwa[af hc,nofun]),hc,n,hd⟩;rwa[(qJ _ _ Qi hl.typeIs<|Hv hl (nX ..) .none (.int j t) .none (by exact nofun) (q _ _ ?_)<|by rwa[af bw<|af a9 ?_,‹a<=1000000->a<=16777216› hz]),af (yn h0),pQ H1]
noncomputable def rT(v:aG):qD aG:=do
 if v== .none then return .none
 if(<-fQ v "__index__").isNone then
  rule "bytes.slice.part-no-index";raiseError "TypeError" "slice indices must be integers or None or have an __index__ method"
 return fC (<-asIndex v)
theorem A9(s:aG):kp s=(do
 let step<-rT (<-U0 s 2)
 if step==fC 0 then rule "bytes.slice.step-zero";raiseError "ValueError" "slice step cannot be zero"
 let first<-rT (<-U0 s 0);let last<-rT (<-U0 s 1)
 return (first,last,step)):=rfl
theorem lZ{v}(hv:IsPart v k)(h:Q (rawPart k) s):aC M A (rT v) Q E s:=by
 cases hv with
 |none=>exact au h
 |int i t=>
  unfold rT;erw [af (if_neg<|show ¬((qaQ i t==eZ)=ah) from HT),sB (T:="int") (nF s i t) int_index];simp only[Option.isNone_some,bE,if_false];exact ak<|oG (a:=i) rfl<|au h
theorem MJ(hT:s.TypeIs (.ref sl) "slice")(h:Q aq s):aC M A (eY<|.ref sl) Q E s:=by
 unfold eY;exact sB hT slice_no_index<|au h
theorem GA(hs:s.heap.IsSliceOf sl .none (.int j t) .none)(h:Q (.none,fC j,.none) s):aC M A (kp<|.ref sl) Q E s:=by
 rwa[dh hs λos Lx HY ZZ=>?_,-hs,af (A9 _),Mr Lx ZZ (x:=.none) rfl<|ak<|lZ .none ?_,af (if_neg<|by exact HT),Mr Lx ZZ (x:=.none) rfl<|ak<|lZ .none<|Mr Lx ZZ (x:=.int j t) rfl<|ak<|lZ (.int j t)<|au h]
theorem GB{Q:aG->aE->Prop}(hz:bs.length<=1000000)(q:∀u s',s'=s\/s'={s with toks:=s.toks+1}->Q (.bytes (bs.take j).toArray u) s'):
 aC M A (do
  if(0:Int)==0&&(1:Int)==1&&((min j bs.length:Nat):Int)==bs.toArray.size&& !bs.toArray.isEmpty then
   if(<-nD (.bytes bs.toArray u))== .type "bytes" then rule "bytes.__getitem__.whole";return<-ret (.bytes bs.toArray u)
  ret (<-Lf (mM bs.toArray 0 ((min j bs.length:Nat):Int) 1))) (λfin s'=>∃v,fin= .done (.ret v)/\Q v s') E s:=by
 split
 . rename_i hc
   have hc:=(aQ.mp (aQ.mp hc).1).2;erw [ak<|xS (dJ s _ u) ?_,af (if_pos<|by rfl)];have hj:bs.take j=bs:=List.take_of_length_le (az (jt (gm<|(beq_iff_eq.mp hc).trans<|by erw [af a9];rfl).symm)<|Nat.min_le_left _ _);exact rB<|au<|bV _ rfl<|hj▸q u s (.inl rfl)
 . refine ak ?_
   unfold Lf
   have e2:mM bs.toArray 0 ((min j bs.length:Nat):Int) 1=(bs.take j).toArray:=by
    unfold mM;rwa[af (A8 _ _<|by rwa[af a9,oi _ _]),congrArg _ DX.symm]
   rwa[af e2 (af (if_neg<|by refine af bw<|af a9<|af cA ?_;omega) ?_),ak<|Aq<|au<|au<|bV _ rfl<|q _ _<|.inr rfl]
theorem MK(h0:0<=j)(hz:bs.length<=1000000)(H:Sat C l s)(q:∀u s',Sat C l s'->Q (.bytes (bs.take j.toNat).toArray u) s'):
 ∃T id,cD (.type T) "__getitem__"=cg (ae<|.builtin id)/\
  ({s with heap:=s.heap.push {cls:=.type "slice",data:=.fields #[.none,.int j t,.none]}}:aE).TypeIs (.bytes bs.toArray u) T/\aC (bc C) A (ru (.bytes bs.toArray u)<|.ref s.heap.objs.size) Q E {s with heap:=s.heap.push {cls:=.type "slice",data:=.fields #[.none,.int j t,.none]}}:=by
 have H1:=H.ext (h':=s.heap.push {cls:=.type "slice",data:=.fields #[.none,.int j t,.none]}) (t:=s.toks) λb o e=>cH _ e;have hs:=nX s.heap .none (.int j t) .none;erw [dh (id hs) λos Lx HY ZZ=>?_,(qJ _ _ j2.lookup (dJ _ _ _) ?_)];unfold ru
 refine cL<|pB<|ak (qs (name:=ab "__getitem__") (dJ _ _ u) j2
  (gz j2 (dJ _ _ u) FB.entry_bytes_getitem ?_<|FB.args_bytes_getitem_2 _ _))
 unfold dr.«bytes.__getitem__»;rwa[ak (m:=eY _)<|MJ ⟨os,Lx,HY⟩<|ak (m:=nD _)<|xS ⟨os,Lx,HY⟩<|ak (m:=kp _)<|GA hs ?_,c4 (c6 h0) λj aH=>?_,!aH,ak (m:=sliceIndices _ _ _ _) (oG (sliceIndices_raw aq (ae (j:Int)) aq bs.toArray.size<|by exact nofun) ?_),af (ud _ _),GB hz λu s' h=>au<|q u s'<|h.elim (λe=>e▸H1) λe=>e▸H1.toks]
end
theorem wo:cD (.type "bytes") "__bytes__"=cg (ae<|.builtin "bytes.__bytes__"):=by rwa[af (bC _ _)<|af a0 ?_,_]
theorem rU(v:aG)(hv:∀s:aE,s.TypeIs v "bytes"):Meets (dr.«bytes.__new__» ⟨[.type "bytes",v],[]⟩) (λA R s=>R (.ok<|.ret v) s):=
 U2 λprog w A R s q=>by
  have hT:=hv s;unfold dr.«bytes.__new__»;erw [(?_:aC _ _ (gB (.type "bytes") (.type "bytes")>>=_) _ _ s),ak<|oG F.sub_bytes_bytes ?_,(?_:aC _ _ (fQ v "__bytes__">>=_) _ _ s),sB hT wo];dsimp only;erw [rB,ak<|xS hT ?_,af (if_pos<|by rfl)];have e:(dB "bytes"==dB "bytes")=ah:=by rfl
  rwa[(?_:aC _ _ ((if(dB "bytes"==dB "bytes")=ah then ret v>>=λr=>cg r else _)) _ _ _),af (if_pos e),pB<|au<|bV _ rfl q]
section
variable{o:Expr}{p:Pos}{bs:List UInt8}
theorem RC(q:Q (.bytes bs.toArray t) s):aC (bc C) A (i5 (.type "bytes") [.bytes bs.toArray t]) Q E s:=
 Lg ng (by rfl) (jn _) (jT _) (λobj=>F.args_object_init_2 obj _) jU (rU _ λs=>dJ s _ t) ⟨rfl,q⟩
theorem ML(hz:bs.length+cs.length<=1000000)(H:Sat C l s)(q:∀t s',Sat C l s'->Q (.bytes (bs++cs).toArray t) s'):aC (bc C) A (qw .Add (.bytes bs.toArray t)<|.bytes cs.toArray u) Q E s:=
 KBy.add_bytes (by simp;exact‹a+b<=1000000->a+b<=16777216› hz) λt' k=>by
  have:=q t' _<|H.toks (t:=k);rw[<-eH] at this;exact this
theorem I9(hs:1<s.heap.objs.size)(H:Sat C l s):Sat C (Mw s.heap.objs.size (λz=>aq)::l) {s with heap:=s.heap.push {cls:=.type "dict",data:=.dict #[]}}:=by
 have H2:=H.alloc (o:={cls:=.type "dict",data:=.dict #[]}) (t:=s.toks) rfl;rw[bU<|by simp] at H2;erw [H2.imp λg hg=>⟨λz=>aq,λk=>.inr rfl,by rwa[af (propext beq_eq_false_iff_ne),ZG hs],_, #[],0,hg,⟨rfl,rfl,rfl⟩,rfl,λe he=>by simp at he,?_,λk=>rfl⟩,(?_:(0:Nat)=List.countP (λz=>ao) _)];simp
theorem Sat.dit{C:Cx}{l:List bp}{s:aE}{d}{f}(H:Sat C (Mw d f::l) s):∃f',(∀k:Int,match f' k with |some v=>∃p t,0<=k/\f k.toNat=ae p/\v= .int (p:Nat) t |none=>k<0\/f k.toNat=aq)/\(d==DR)=ao/\Sat C (DI d 1000000 f'::l) s:=by
 rwa[nn λzn=>?_,c4 (Sat.ex.mp H) λf' H1=>?_,aT (Sat.pure.mp H1) λh1 H2=>?_,aT (Sat.pure.mp H2) λh2 H3=>?_,zn,-zn,(oK f' h1 h2 H3)]
noncomputable def RE(o:Option Nat)(j:Int):Int:=match o with |some p=>(p:Nat) |none=>j
theorem MM(h0:0<=i)(H:Sat C (Mw d f::l) s)(q:∀v s',Sat C (Mw d f::l) s'->Q (.int (RE (f i.toNat) j) v) s'):aC (bc C) A (i5 (.builtin "dict.get") [.ref d,.int i t,.int j u]) Q E s:=by
 refine dh H.dit λf' h1 h2 H1=>?_;have hm:=H1.ID
 with_reducible refine call_meetsIn PySem.F.slot_dict_get hm.typeIs PySem.F.entry_dict_get (PySem.F.args_dict_get_3 _ _ _) (meets_dict_get_default (lA C.prog C.w) d (intKind_is C.prog C.w i t) h2 _)<|bV _ hm ?_
 have h:=h1 i
 cases e:f' i with
 |none=>
  rw[e] at h;have ef:f i.toNat=aq:=h.resolve_left (by lia);have:=q u _<|H.toks (t:=s.toks+1);rw[ef] at this;exact this
 |some v=>
  rw[e] at h;obtain⟨p,t',-,ef,rfl⟩:=h;have:=q t' _<|H.toks (t:=s.toks+1);rw[ef] at this;exact this
theorem MN(h0:0<=i)(h1:i<1000000)(hx:0<=x)(H:Sat C (Mw d f::l) s)(q:∀s',Sat C (Mw d (λk=>if k=i.toNat then ae x.toNat else f k)::l) s'->Q () s'):
 aC (bc C) A (oA (.ref d) (.int i t)<|.int x u) Q E s:=by
 erw [nn λzn=>?_,dh H.dit λf' g1 g2 H1=>?_,c4 (c6 h0) λi aH=>?_,zn,-zn,!aH,c4 (c6 hx) λx aH=>?_,!aH,QX (n:=1000000) (f:=f') (i:=i) H1 .here (by exact(aF.mp h1)) (aA _) g2 λs' H'=>q s' ?_,H'.imp λg hg=>⟨_,λk=>?_,g2,hg⟩];dsimp only;by_cases hk:k=(i:Int)
 . refine af (if_pos hk) ?_
   exact(qJ x u (by lia) (by erw [af (if_pos<|by lia)];rfl) rfl)
 . refine af (if_neg hk) ?_
   have h:=g1 k
   cases e:f' k with
   |none=>
    rw[e] at h;rcases h with h |h
    . exact .inl h
    . by_cases hn:k<0
      . exact .inl hn
      . exact .inr (by rwa[af (if_neg<|by lia),h])
   |some v=>
    rw[e] at h;rwa[dF h λp t' h0 ef aH=>?_,-h,!aH,(qJ p t' h0 (by rwa[af (if_neg<|by lia),ef]) rfl)]
end
section
variable{C:Cx}{A:c5}{s:aE}{K:qo}{Cl:br}{E:aG->aE->Prop}
theorem Ph(F:KF K):IF K 178 168 175:=⟨F.AH,F.AI,F.AJ,F.AK,F.AL,F.AM⟩
theorem ue(X:K.In s.heap)(I:InstAt s.heap a ox Cl od)(hs:jY K (.ref Cl) name=ae (ae<|.ref f))(hf:typeIn K (.ref f)=ae (.type "function"))(h:a6 (bc C) A (i5 (.ref f)<|.ref a::args) (λv=>Q<|ae v) E s):
 a6 (bc C) A (rq (.ref a) name args) Q E s:=by
 unfold rq;rwa[bh<|ak<|I.type.here<|(iP X hs).here ?_,bJ<|bh<|(bind_fn X _ hf).here ?_,mC h λy y z=>aY z]
theorem Ja(G:Gl C K)(so:IF K Cl fget fset)(hm:lO a Cl ns vs∈l)(H:Sat C l s)(h:cQ (bc C) A.in1 (.call (.ref fget) ⟨[.ref a,i],[]⟩) (oR Q E) s)(L8:Ar slice ah (.ref a) i=qfa (.builtin "lifetime.subscript" ⟨[.ref a,i],[]⟩)):
 a6 (bc C) A (du value slice (.ref a) i) Q E s:=by
 erw [nn λzn=>?_,c4 (H.mem hm) λR H'=>?_,n6 H'.vK λdx od I hl=>?_,zn,-zn];have X:=G.X H;have hf:=so.VD;unfold fnIn at hf
 split at hf
 . rename_i e
   delta du getitemInPython;refine bh<|aB<|I.type.here<|(iP X so.get).here ?_;dsimp only;refine lB (X _ _ e)<|au ?_;dsimp only;erw [af L8,aR<|m4<|gv entry_sub ?_];delta dr.«lifetime.subscript»;rwa[aR<|ue X I so.get (beq_iff_eq.mp so.VE)<|Pb (eK h) λv s' z=>?_,aY,(?_:a6 _ A (qe0 value (.ref a) v>>=λy=>cg v) Q E s'),bh<|lL<|aY z]
 . contradiction
theorem Jb(G:Gl C K)(so:IF K Cl fget fset)(hm:lO a Cl ns vs∈l)(H:Sat C l s)(h:cQ (bc C) A (.call (.ref fset) ⟨[.ref a,i,v],[]⟩) (oR (λy=>Q ()) E) s):a6 (bc C) A (oA (.ref a) i v) Q E s:=by
 erw [nn λzn=>?_,c4 (H.mem hm) λR H'=>?_,n6 H'.vK λdx od I hl=>?_,zn,-zn];have X:=G.X H;delta oA sequenceKey;rwa[bJ<|bh<|ak<|I.type.here ?_,ak<|(anyM_none X so.noSeq).here ?_,af (if_pos<|show(!ao)=ah from rfl),au<|aR<|ue X I so.set (beq_iff_eq.mp so.VF)<|Pb (eK h) λy y z=>aY z]
theorem GC{x}{p}{fget}{nm}{rest}{Q}{expr}{ox}{od}(X:K.In s.heap)(I:InstAt s.heap x ox Cl od)(hga:jY K (.ref Cl) "__getattribute__"=ae (ae<|.builtin "object.__getattribute__"))(hf:findObj K Cl od nm=ae (.bind (.builtin "property.__get__")<|.ref p))(hk:jY K (.ref Cl) "__getattr__"=ae aq)(hp:recIn K p "property"=ae (.ref fget::rest))(h:cQ (bc C) A.in1 (.call (.ref fget) ⟨[.ref x],[]⟩) (λr s'=>match r with |.ok (.ret v)=>Ol v=ah/\Q v s' |_=>False) {s with toks:=s.toks+1}):a6 (bc C) A (rn (.ref x) nm expr) Q E s:=by
 obtain⟨hh,g,d,t,os⟩:=s;have L0:=I.type (M:=bc C);have L1:=iP (M:=bc C) X hga;have L2:=looks_find (M:=bc C) X I hf;have L3:=iP (M:=bc C) X hk;delta rn getAttrBy;erw [bh<|wpAny_mkText<|bJ<|bh<|L0.at<|bh<|L1.at ?_,(?_:a6 _ _ (getAttrEveryday _ _ _) _ _ _),aR<|gH<|m4<|gv F.plainObj_entry_getattr_hooked ?_,bh<|au<|bh<|L0.at<|bh<|L2.at<|bh<|L3.at ?_,(?_:a6 _ _ (iO [.ref p] (i5 (.builtin "property.__get__") [.ref p,.ref x,.ref Cl])>>=ret) _ _ _),Qu<|eK ?_,vF (rec_of X hp) λd' sl ho=>?_,iE (iV _<|by decide+kernel) (qS (by rfl) _)<|KF.slot_prop.check _ _ _ _ _ _ _ _ ⟨_,ho,rfl⟩ (KF.args_prop _ _ _)<|gv KF.entry_prop<|a6.of ?_];delta dr.«property.__get__» B6;dsimp only at ho
 repeat lk
 refine⟨⟨rfl,rfl⟩,m6 h λr s' hr=>?_⟩
 cases r with
 |error e=>exact hr.elim
 |ok fl=>
  cases fl with
  |ret v=>exact aY (show a6 _ _ (handedOut v) _ _ _ by rwa[af (handedOut_of hr.1),aY hr.2])
  |_=>exact hr.elim
theorem GD{l:List bp}{a:br}{vs:List (Option aG)}{Q}(G:Gl C K)(F:KF K)(H:Sat C (lO a 1000 (eG 1000) vs::l) s)(h:cQ (bc C) A.in1 (.call (.ref 947) ⟨[.ref a],[]⟩) (λr s'=>match r with |.ok (.ret v)=>Ol v=ah/\Q v s' |_=>False) {s with toks:=s.toks+1}):a6 (bc C) A (rn (.ref a) "have" ah) Q E s:=by
 have ck:Az K 1000 (eG 1000):=CB F (by decide+kernel);refine n6 H.vK λdx od I hl=>?_;exact GC (G.X H) I (tQ ck.get).1 (findObj_data (by erw [aK (any_some ck.has) λcd hc z=>?_,af hc];rfl) F.h1 F.h2 F.h3) (tQ ck.get).2 F.h4 h
theorem MO(hp:o5 o=ah)(h:a6 (bc C) A (eval o env) (λv s1=>a6 (bc C) A (rn v x ah) Q E s1) E s):a6 (bc C) A (eval (.Attribute o x pos) env) Q E s:=by
 rwa[af (arm_eval_Attribute _ _ _ _)<|af (wj hp) ?_,mC h λv s1 h1=>ou<|IJ h1 λr s2 h2=>bh<|lL<|aY h2]
theorem MP(h:a6 (bc C) A (eval o env) (λv s1=>a6 (bc C) A (eval e env) (λi s2=>a6 (bc C) A (du o e v i) Q E s2) E s1) E s):a6 (bc C) A (eval (.Subscript o e pos) env) Q E s:=by
 rwa[af (qeY _ _ _),mC h λv s1 h1=>IJ h1 λi s2 h2=>ou h2]
theorem uf(G:Gl C K)(ca:Eh K c x f)(H:Sat C l s)(q:∀s',Sat C l s'->Q (.ref f,[]) s'):aC (bc C) A (k9 (.ref c) x pl) Q E s:=
 method_cls (G.X H) ca.ga (cls_value (G.X H) ca.rd ca.val rfl<|q _ H.toks)
end
section
variable{ω:Om}{a:AV}{va:aG}
theorem At.nk:∀{vs:List (Option aG)} {k:Nat} {x:bI} {v:Option aG},ns[k]? =ae x->vs[k]? =ae v->At ns vs x v:=by
 induction ns with
 |nil=>intro vs k x v h1;contradiction
 |cons n ns ih=>intro vs k x v h1 h2;cases vs with
  |nil=>contradiction
  |cons w vs=>cases k with
   |zero=>(injection h1 with h1;subst h1);(injection h2 with h2;subst h2);exact .here
   |succ k=>exact .there<|ih (k:=k) h1 h2
theorem Put.nk:∀{vs:List (Option aG)} {k:Nat} {x:bI} {o:Option aG} {v:aG},ns[k]? =ae x->vs[k]? =ae o->Put ns vs x o v (vs.set k<|ae v):=by
 induction ns with
 |nil=>intro vs k x o v h1;contradiction
 |cons n ns ih=>intro vs k x o v h1 h2;cases vs with
  |nil=>contradiction
  |cons w vs=>cases k with
   |zero=>(injection h1 with h1;subst h1);(injection h2 with h2;subst h2);exact .here
   |succ k=>exact .there<|ih (k:=k) h1 h2
theorem dz:(AV.int i).Is ω w↔ ∃t,w= .int i t:=fq
theorem gj:(AV.bool i).Is ω w↔w= .bool i:=fq
theorem fK:AV.none.Is ω w↔w= .none:=fq
theorem tC:(AV.str i).Is ω w↔ ∃t,w= .str i t:=fq
theorem ik:(AV.bytes i).Is ω w↔ ∃t,w= .bytes i.toArray t:=fq
theorem gY:(AV.ref i).Is ω w↔ ∃a,ω.ρ[i]? =ae a/\w= .ref a:=fq
theorem Ac:(AV.tup xs).Is ω w↔ ∃a vs,(a,Fz.tup vs)∈ω.τ/\w= .ref a/\Vs ω xs vs:=by
 exact⟨λ⟨a,vs,h1,h2,h3⟩=>(qJ a vs h1 h2<|iY.mp h3),λ⟨a,vs,h1,h2,h3⟩=>(qJ a vs h1 h2<|iY.mpr h3)⟩
theorem tD:(AV.raw x).Is ω w↔w=x:=fq
theorem fj{a}(h:(a&&b)=ah):a=ah/\b=ah:=by cases a;contradiction;exact⟨rfl,h⟩
theorem CV{a:Bool}{P:Prop}(h:(a&&b)=ah)(q:a=ah->b=ah->P):P:=q (fj h).1 (fj h).2
theorem cx{P:aG->Prop}(h:(AV.int i).Is ω w)(q:∀t,P<|.int i t):P w:=by rwa[c4 (dz.mp h) λt aH=>?_,!aH,q t]
theorem kN{P:aG->Prop}(h:(AV.str i).Is ω w)(q:∀t,P<|.str i t):P w:=by rwa[c4 (tC.mp h) λt aH=>?_,!aH,q t]
theorem eL{P:aG->Prop}(h:(AV.bytes i).Is ω w)(q:∀t,P<|.bytes i.toArray t):P w:=by rwa[c4 (ik.mp h) λt aH=>?_,!aH,q t]
theorem eM{P:aG->Prop}(h:(AV.ref i).Is ω w)(q:∀a,ω.ρ[i]? =ae a->P (.ref a)):P w:=by rwa[aK (gY.mp h) λa e aH=>?_,!aH,q a e]
theorem i3{P:aG->Prop}(h:(AV.tup xs).Is ω w)(q:∀a vs,(a,Fz.tup vs)∈ω.τ->Vs ω xs vs->P (.ref a)):P w:=by rwa[dF (Ac.mp h) λa vs m aH e=>?_,!aH,q a vs m e]
theorem pR{P:aG->Prop}(h:(AV.bool i).Is ω w)(q:P (.bool i)):P w:=by cases gj.mp h;exact q
theorem tE{P:aG->Prop}(h:AV.none.Is ω w)(q:P .none):P w:=by cases fK.mp h;exact q
theorem rV{P:aG->Prop}(h:(AV.raw x).Is ω w)(q:P x):P w:=by cases tD.mp h;exact q
theorem rW{P:aG->Prop}(h:(fZ a k).H)(hv:a.Is ω w)(q:∀i t,(k i).H->P (.int i t)):P w:=by(apply ve h;intro i cK h;subst cK);exact cx hv λt=>q i t h
theorem wq{P:aG->Prop}(h:(oZ a k).H)(hv:a.Is ω w)(q:∀i t,ω.ρ[i]? =ae t->(k i).H->P (.ref t)):P w:=by(apply zf h;intro i cK h;subst cK);exact eM hv λt e=>q i t e h
theorem GF{P:aG->Prop}(h:(oY a k).H)(hv:a.Is ω w)(q:∀i,(k i).H->P (.bool i)):P w:=by(apply o3 h;intro i cK h;subst cK);exact pR hv<|q i h
theorem Jc{P:aG->Prop}(h:(En a k).H)(hv:a.Is ω w)(q:∀i t vs,(t,Fz.tup vs)∈ω.τ->Vs ω i vs->(k i).H->P (.ref t)):P w:=by(apply Ep h;intro i cK h;subst cK);exact i3 hv λt vs m e=>q i t vs m e h
theorem zi(h:Vs ω xs vs):∀{i:Nat} {v:aG},vs[i]? =ae v->∃x,xs[i]? =ae x/\x.Is ω v:=by
 induction h with
 |nil=>intro i v e;contradiction
 | @cons x y xs vs p r ih=>
   intro i v e
   cases i with
   |zero=>(injection e with e;subst e);exact(bV x rfl p)
   |succ i=>exact ih (by simpa using e)
theorem LG(h:Vs ω [a] ws):∃w,ws=[w]/\a.Is ω w:=by cases h with |cons p r=>cases r;exact(bV _ rfl p)
theorem yR(h:Vs ω [a,b] ws):∃w x,ws=[w,x]/\a.Is ω w/\b.Is ω x:=by
 cases h with |cons p r=>refine aK (LG r) λx aH q=>?_;subst aH;exact(qJ _ _ rfl p q)
theorem MQ(h:(Z5 op i j k).H)(q:∀x,(k x).H->Q (.int x s.toks) {s with toks:=s.toks+1}):aC (bc C) A (qw op (.int i t)<|.int j u) Q E s:=by
 cases op with
 |Add=>exact qaq<|q _ h
 |Sub=>exact qar<|q _ h
 |Mult=>exact qas (q _ h.2) h.1
 |Mod=>exact qat h.1<|q _ h.2
 |LShift=>exact qau h.1.1.1 h.1.1.2 h.1.2<|q _ h.2
 |RShift=>exact qav (of_decide_eq_true h.1)<|q _ h.2
 |BitOr=>exact qaw<|q _ h
 |BitAnd=>exact qax<|q _ h
 |_=>exact h.elim
theorem Jd(h:isN a=ae p)(ha:a.Is ω va):(va== .none)=p:=by
 cases a<;>(first |contradiction |(injection h with h;subst h))
 . apply tE ha;rfl
 . apply pR ha;rfl
 . (apply cx ha;intro t);rfl
 . (apply kN ha;intro t);rfl
 . (apply eL ha;intro t);rfl
 . (apply eM ha;intro t _);rfl
 . (apply i3 ha;intro t _ _ _);rfl
noncomputable def RG:aG->aG->Bool
 |.int i _,.int j _=>i==j
 |.str i _,.str j _=>i==j
 |_,_=>ao
theorem MR(h:V2 a x=ae c)(ha:a.Is ω va)(hx:x.Is ω vx):sT vx va c/\RG vx va=c:=by
 cases x with
 |int j=>
  (apply cx hx;intro u)
  cases a<;>(first |contradiction |(injection h with h;subst h))
  (apply cx ha;intro t)
  exact⟨Qj _ _ _ _,rfl⟩
 |str j=>
  (apply kN hx;intro u)
  cases a<;>(first |contradiction |(injection h with h;subst h))
  (apply kN ha;intro t)
  exact⟨A1 _ _ _ _,rfl⟩
 |_=>contradiction
theorem RH(ha:a.Is ω va){xs}{vs}{k}(h:(V3 a xs k).H)(r:Vs ω xs vs):(k<|vs.any λy=>RG y va).H/\∀y∈vs,sT y va (RG y va):=by
 induction r generalizing k with
 |nil=>exact⟨h,λz h=>by contradiction⟩
 |cons p r ih=>
  (apply bq h;intro b e h)
  erw [nn λzn=>?_,aT (MR e ha p) λe1 e2=>?_,aT (ih (k:=λc=>k<|b||c) h) λh1 h2=>?_,zn,-zn,⟨by rwa[af List.any_cons<|af e2 ?_,h1],λy hy=>?_⟩];rcases aV.mp hy with rfl |hy
  . rwa[af e2,e1]
  . exact h2 y hy
theorem MT:∀v:aG,(Rp v).Is ω v:=λv=>by
 cases v<;>first |exact dz.mpr ⟨_,rfl⟩ |exact tC.mpr ⟨_,rfl⟩ |exact fK.mpr rfl |exact tD.mpr rfl
theorem Et:∀{vs:List aG},Vs ω (vs.map Rp) vs
 |[]=>.nil
 |v::vs=>.cons (MT v) Et
theorem Ba{K:qo}(G:Gl C K)(F:KF K)(H:Sat C l s)(e:IZ t=ae xs):∃vs,s.heap.get? t=ae {cls:=.type "tuple",data:=.seq vs.toArray 0}/\vs.length<=1000/\Vs ω xs vs:=by
 erw [aK (c9.mp e) λvs e1 aH=>?_,!aH];have hm:=gi e1;exact(oK vs (G.X H _ _<|F.rG _ hm) ((show ∀p∈vN,p.2.length<=1000 by decide) _ hm) Et)
theorem Je{k:Bool->VC}(ho:Rt op=ae n)(h:(V3 a xs λb=>k<|n ^^ b).H)(ha:a.Is ω va)(hv:Vs ω xs vs)(hg:s.heap.get? t=ae {cls:=.type "tuple",data:=.seq vs.toArray e})(q:∀p,(k p).H->Q (.bool p) s):aC (bc C) A (la op va<|.ref t) Q E s:=by
 refine aT (RH ha h hv) λh1 h2=>?_;have e1:vs.toArray.any (λy=>RG y va)=vs.any λy=>RG y va:=List.any_toArray;cases op<;>(first |contradiction |(injection ho with ho;subst ho))
 . refine qfs (items:=vs.toArray) (λy=>RG y va) (λy hm=>h2 y<|by simpa using hm) hg ?_
   rwa[af e1,q _<|by simpa using h1]
 . refine qft (items:=vs.toArray) (λy=>RG y va) (λy hm=>h2 y<|by simpa using hm) hg ?_
   rwa[af e1,q _<|by simpa using h1]
theorem GG(h:i0 slice)(o i:aG):Ar slice ao o i=operate [o,i] (ru o i):=by
 cases slice<;>first |rfl |exact absurd rfl<|h _ _ _ _
theorem CW(h:i0 slice)(o i:aG):Ar slice ah o i=qfa (.builtin "lifetime.subscript" ⟨[o,i],[]⟩):=by
 cases slice<;>first |rfl |exact absurd rfl<|h _ _ _ _
theorem o7{id}(hT:s.TypeIs o T)(hl:cD (.type T) "__getitem__"=cg (ae<|.builtin id))(hs:i0 slice)(h:aC (bc C) A (ru o i) Q E s):
 a6 (bc C) A (du value slice o i) Q E s:=by
 erw [a6.of];unfold du;rwa[ak<|af (LU hT.not_modules) ?_,sB hT hl<|au<|ak ?_,af (GG hs _ _)<|qaS<|mE h λr s₃ h₃=>ak<|lL<|au h₃]
theorem Jf(h:(I1 xs k).H)(r:Vs ω xs vs):∃bs,Tells vs bs/\(k bs).H:=by
 induction r generalizing k with
 |nil=>exact(bV [] .nil h)
 |cons p r ih=>
  obtain⟨i,rfl,h0,h⟩:=dH h
  (apply cx p;intro t)
  exact aK (ih (k:=λbs=>k<|bz i.toNat::bs) h) λbs h1 h2=>bV _ (.cons h0.1 h0.2 h1) h2
end
section
variable{c:Fm}{s:aE}{ω:Om}{a b v:AV}{va vb w:aG}{R:List bp}{fr:Frs}{hp:List AO}{E:aG->aE->Prop}{A:c5}
theorem SA.lst{i:Nat}{ad:br}(h:SA c R ω fr hp s)(e:hp[i]? =ae (.lst xs))(ea:ω.ρ[i]? =ae ad):∃ws l,Vs ω xs ws/\Sat c.C (jJ ad ws::l) s/\∀P s',Sat c.C (P::jJ ad ws::l) s'->SA c (P::R) ω fr hp s':=by
 erw [aK (h.VY e) λEu dU aH=>?_,aK aH λl H back=>?_,-aH];rw[ea] at dU;injection dU with dU;subst dU
 simp only[AO.P] at H back
 (apply Sat.Ax H;intro ws H1)
 (apply Sat.sW H1;intro hv H2)
 exact⟨ws,l,hv,H2,λP s' H'=>back P s'<|iC<|(iC H').imp λg hg=>⟨ws,hv,hg⟩⟩
theorem RI(h:Vs ω xs ws):∀g,jJ x ws g->AO.P (.lst xs) (ω.add x) x g:=λg hg=>by rw[AO.P];exact(bV ws (h.ext Om.gd) hg)
theorem wt(h:SA c R ω fr hp s){x}:(AV.ref hp.length).Is (ω.add x) (.ref x):=gY.mpr (bV x (by rwa[dq h.1,Om.zc]) rfl)
def Done(c:Fm)(R:List bp)(ω:Om)(fr:Frs)(k:AV->List AO->VC)(Q:aG->aE->Prop):Prop:=∀v hp' bb w s',(k v hp').H->mh ω bb->v.Is bb w->SA c R bb fr hp' s'->Q w s'
theorem Done.lst{s}(q:Done c R ω fr k Q)(hS:SA c R ω fr hp s)(hk:(k (.ref hp.length)<|hp++[.lst xs]).H)(hv:Vs ω xs ws)(H:SA c (jJ x ws::R) ω fr hp s'):Q (.ref x) s':=
 q _ _ _ _ _ hk Om.gd (wt hS) (H.adopt<|RI hv)
theorem MU{ad}(h:(V0 op r y hp k).H)(ea:ω.ρ[r]? =ae ad)(hy:y.Is ω vy)(HS:SA c R ω fr hp s)(q:Done c R ω fr k Q):
 aC (bc c.C) A (qw op (.ref ad) vy) Q E s:=by
 erw [nn λzn=>?_,aK (bX h) λo eo h=>?_,aK (tB h) λxs aH h=>?_,!aH,dF (HS.lst eo ea) λws l hv H back=>?_]
 refine zn ?_;clear zn;cases op with
 |Mult=>
  erw [nn λzn=>?_,aK (dH h) λj aH h=>?_,!aH,dh (iZ h) λx aH h1 hk=>?_,zn,-zn,!aH]
  (apply cx hy;intro u)
  erw [aK (LG hv) λw aH hw=>?_,!aH,MF h1.1 h1.2 H λx s' H'=>q.lst HS hk ?_<|back _ _ H'];generalize j.toNat=n
  induction n with
  |zero=>exact .nil
  |succ n ih=>exact .cons hw ih
 |Add=>
  erw [nn λzn=>?_,aK (pO h) λr2 aH h=>?_,!aH,aK (bX h) λo2 MV h=>?_,dh (tB h) λys aH hz hk=>?_,zn,-zn,!aH]
  (apply eM hy;intro ad2 ea2)
  refine nn λzn=>?_;obtain⟨us,l2,hu,H2,-⟩:=HS.lst MV ea2;erw [c4 H.CF λm e0=>(c4 H2.CF λm' e1=>?_),zn,-zn];exact MG (by rwa[dq hv.length<|dq hu.length ?_,hz]) (e0.get<|not_eq_of_beq_eq_false rfl) (e1.get<|not_eq_of_beq_eq_false rfl) λx s' mk=>q.lst HS hk (hv.append hu)<|HS.into mk
 |_=>exact h.elim
theorem MW(h:(V1 op x y hp k).H)(hx:x.Is ω vx)(hy:y.Is ω vy)(HS:SA c R ω fr hp s)(q:Done c R ω fr k Q):
 aC (bc c.C) A (qw op vx vy) Q E s:=by
 cases x with
 |int i=>
  erw [aK (dH h) λj aH h2=>?_,!aH]
  (apply cx hx;intro t)
  (apply cx hy;intro u)
  exact MQ h2 λx hk=>q _ _ _ _ _ hk .rfl (dz.mpr ⟨_,rfl⟩) HS.toks
 |bytes b=>
  (apply eL hx;intro t)
  refine aK HS.sat λl H back=>?_
  cases op with
  |Mult=>
   erw [aK (iZ h) λx aH h=>?_,!aH,dh (dH h) λj aH h1 hk=>?_,!aH]
   (apply cx hy;intro u)
   exact Gs h1.1 h1.2 H λt s' H'=>q _ _ _ _ _ hk .rfl (ik.mpr ⟨t,rfl⟩)<|back _ H'
  |Add=>
   erw [dh (o4 h) λd aH hz hk=>?_,!aH]
   (apply eL hy;intro u)
   exact ML hz H λt s' H'=>q _ _ _ _ _ hk .rfl (ik.mpr ⟨t,rfl⟩)<|back _ H'
  |_=>exact h.elim
 |ref r=>
  (apply eM hx;intro ad ea)
  exact MU h ea hy HS q
 |_=>exact h.elim
theorem MX(h:(V4 op i j k).H)(q:∀p,(k p).H->Q (.bool p) s):aC (bc c.C) A (la op (.int i t)<|.int j u) Q E s:=by
 have of:∀(P:Prop) [Decidable P],(P->(k ah).H)/\(¬P->(k ao).H)->Q (.bool<|decide P) s:=λP z h=>q _ (by by_cases e:P;refine af (decide_eq_true e) ?_;exact h.1 e;refine af (decide_eq_false e) ?_;exact h.2 e);have eq:(i==j)=decide (i=j):=by by_cases e:i=j;rfl;rfl
 cases op with
 |Eq=>exact qay<|eq▸of _ h
 |NotEq=>exact qaz (by rwa[af (show(i !=j)=decide (¬i=j) by rw[bne,eq,decide_not]),of _ ⟨h.2,λe=>h.1<|qfu.mp e⟩])
 |Lt=>exact qaA<|of _ h
 |LtE=>exact qaB<|of _ h
 |Gt=>exact qaC<|of _ h
 |GtE=>exact qaD<|of _ h
 |_=>exact h.elim
theorem GH{b:Bool}{P:lK->Prop}(h:(aX (Rq op b) k).H)(h1:(k b).H->P .Eq)(h2:(k<|!b).H->P .NotEq):P op:=by cases op<;>first |exact h1 h |exact h2 h |exact h.elim
theorem GI{b:Bool}{P:lK->Prop}(h:(aX (V5 op b) k).H)(h1:(k b).H->P .Is)(h2:(k<|!b).H->P .IsNot):P op:=by cases op<;>first |exact h1 h |exact h2 h |exact h.elim
theorem GJ{P:lK->Prop}(h:(V6 op x y k).H)(h1:(k<|x==y).H->P .Eq)(h2:(k<|!(x==y)).H->P .NotEq):P op:=by
 cases op with
 |Eq=>exact h1 (by by_cases e:x=y
                   . rwa[af (beq_iff_eq.mpr e),h.1 e]
                   . refine af (beq_eq_false_iff_ne.mpr e) ?_;exact h.2 e)
 |NotEq=>exact h2 (by by_cases e:x=y
                      . rwa[af (beq_iff_eq.mpr e),h.1 e]
                      . refine af (beq_eq_false_iff_ne.mpr e) ?_;exact h.2 e)
 |_=>exact h.elim
theorem nq(G:Gl c.C c.K)(F:KF c.K)(h:(Ru op a b k).H)(ha:a.Is ω va)(hb:b.Is ω vb)(HS:SA c R ω fr hp s)(q:∀p,(k p).H->Q (.bool p) s):aC (bc c.C) A (la op va vb) Q E s:=by
 cases b with
 |none=>
  apply tE hb
  (apply bq h;intro p e h)
  obtain rfl:=Jd e ha;apply GI h
  . exact λh=>is_none_gen<|q _ h
  . exact λh=>xc<|q _ h
 |int j=>
  (apply ve h;intro i cK h2;subst cK)
  (apply cx hb;intro u)
  (apply cx ha;intro t)
  exact MX h2 q
 |str y=>
  (apply Er h;intro x cK h;subst cK)
  (apply kN hb;intro u)
  (apply kN ha;intro t)
  apply GH h
  . exact λh=>qaE<|q _ h
  . exact λh=>qaF<|q _ h
 |bytes y=>
  (apply Gv h;intro x cK h;subst cK)
  (apply eL hb;intro u)
  (apply eL ha;intro t)
  apply GJ h
  . exact λh=>eq_bytes<|q _ h
  . exact λh=>ne_bytes<|q _ h
 |tup xs=>
  (apply bq h;intro n e h)
  (apply jA h;intro _ h)
  (apply i3 hb;intro x vs hm hv)
  refine c4 (HS.tup hm) λl H=>?_
  (apply Sat.Ax H;intro m H2)
  exact Je e h ha hv (H2.get<|not_eq_of_beq_eq_false rfl) q
 |raw z=>
  cases z with
  |ref t=>
   apply rV hb
   (apply bq h;intro n e h)
   (apply bq h;intro xs e2 h)
   refine nn λzn=>?_;obtain⟨l,H,-⟩:=HS.sat;obtain⟨vs,hg,-,hv⟩:=Ba (ω:=ω) G F H e2;rwa[zn,-zn,Je e h ha hv hg q]
  |_=>exact h.elim
 |_=>exact h.elim
theorem Jg{o}{xs}(h:B9 o=ae xs){ω}{a}:∀g,o.P ω a g->AO.P (.lst xs) ω a g:=λg hg=>by
 cases o with
 |lst ys=>(injection h with h;subst h);exact hg
 |ll ys=>(injection h with h;subst h);exact hg.2
 |_=>contradiction
open PySem.SeqAt in
theorem Jh{A}{x:AV}{v}{w}(h:x.eq0=ah)(hv:x.Is ω v)(hw:x.Is ω w):EqAt A s v w ah:=by
 cases x with
 |none=>cases fK.mp hv;cases fK.mp hw;exact .same _
 |bool b=>cases gj.mp hv;cases gj.mp hw;exact .same _
 |int i=>
  obtain⟨t,rfl⟩:=dz.mp hv;obtain⟨u,rfl⟩:=dz.mp hw;have:=EqAt.int_int (A:=A) (s:=s) i t i u;rw[beq_self_eq_true] at this;exact this
 |str i=>
  obtain⟨t,rfl⟩:=tC.mp hv;obtain⟨u,rfl⟩:=tC.mp hw;have:=EqAt.str_str (A:=A) (s:=s) i t i u;rw[beq_self_eq_true] at this;exact this
 |bytes i=>
  obtain⟨t,rfl⟩:=ik.mp hv;obtain⟨u,rfl⟩:=ik.mp hw;intro prog w E Q hq;unfold eqBool;refine cL<|wpAny_ite_split (λz=>?_) λz=>?_
  . exact rB<|au hq
  . have h3:aC (bx prog w) A (la .Eq (.bytes i.toArray t)<|.bytes i.toArray u) (λv s'=>aC (bx prog w) A (truthOfDropped v) Q E s') E s:=eq_bytes (by refine af (beq_self_eq_true _) ?_;exact ic hq)
    exact ak h3
 |_=>contradiction
theorem SA.isTup{ad}(HS:SA c R ω fr hp s)(m:(ad,Fz.tup vs)∈ω.τ):s.heap.IsTuple ad vs.toArray:=by
 refine c4 (HS.tup m) λl H=>?_
 (apply Sat.Ax H;intro m H2)
 exact⟨_,H2.get<|not_eq_of_beq_eq_false rfl,rfl,_,rfl⟩
theorem t7:(fc n).all (λz=>ah)=ah:=a4.mpr λz z=>rfl
open PySem.SeqAt in
theorem RJ{A:c5}{x:AV}{v}{w}(hu:A.units<cLine)(HS:SA c R ω fr hp s)(h:x.eqb=ah)(hv:x.Is ω v)(hw:x.Is ω w):EqAt A s v w ah:=by
 cases x with
 |tup xs=>
  erw [dF (Ac.mp hv) λa vs m1 aH k1=>?_,!aH,dF (Ac.mp hw) λb ws m2 aH k2=>?_,!aH];by_cases e:a=b
  . rwa[!e,.same _]
  erw [.of_refs e];have hl:vs.length=ws.length:=k1.length.symm.trans k2.length
  have h3:=RcAt.tuples (A:=A) (e:=λz=>ah) (HS.isTup m1) (HS.isTup m2) hu λj h1 h2=>by
   erw [aK (zi k1<|show vs[j]? =ae vs.toArray[j] by exact aI<|by assumption) λx ex hx=>?_,aK (zi k2<|show ws[j]? =ae ws.toArray[j] by exact aI<|by assumption) λy ey hy=>?_];rw[ex] at ey;injection ey with ey;subst ey
   exact Jh (a4.mp (show xs.all AV.eq0=ah from h) x<|dv ex) hx hy
  rw[t7,Ug] at h3;have e2:(vs.toArray.size==ws.toArray.size)=ah:=beq_iff_eq.mpr hl;rw[e2] at h3;exact h3
 |_=>rwa[Jh ?_ hv hw,h]
open PySem.SeqAt in
theorem Ew{op:lK}{k:Bool->VC}{Q:aG->aE->Prop}(G:Gl c.C c.K)(F:KF c.K){N:Nat}(rm:Rm c.C A N)(h:(V8 N op a b hp k).H)(ha:a.Is ω va)(hb:b.Is ω vb)(HS:SA c R ω fr hp s)(q:∀p,(k p).H->Q (.bool p) s):aC (bc c.C) A (la op va vb) Q E s:=by
 cases b with
 |bool y=>
  (apply o3 h;intro x cK h;subst cK)
  cases gj.mp ha
  cases gj.mp hb
  (apply bq h;intro p e h)
  cases op with
  |Eq=>(injection e with e;subst e);exact RcAt.bool_bool (A:=A) x y _ _ _ _<|q _ h
  |NotEq=>(injection e with e;subst e);exact RcNeAt.bool_bool (A:=A) x y _ _ _ _<|q _ h
  |Is=>(injection e with e;subst e);exact au (by cases x<;>cases y<;>exact q _ h)
  |IsNot=>(injection e with e;subst e);exact au (by cases x<;>cases y<;>exact q _ h)
  |_=>contradiction
 |ref r=>
  (apply jA h;intro hN h)
  have hu:A.units+1<cLine:=a7 (f5 (az (by exact eJ _)<|dj 6<|aa hN) _) rm.units
  (apply zf h;intro r1 cK h;subst cK)
  (apply eM ha;intro ad1 ea1)
  (apply eM hb;intro ad2 ea2)
  (apply bq h;intro o1 eo1 h)
  (apply bq h;intro o2 MV h)
  (apply bq h;intro xs e1 h)
  (apply bq h;intro ys e2 h)
  (apply bq h;intro p e3 h)
  refine nn λzn=>?_;obtain⟨⟨⟨rfl,hq⟩,hz⟩,h⟩:=h
  have key:∀{o:AO} {r:Nat} {ad:br},hp[r]? =ae o->ω.ρ[r]? =ae ad->B9 o=ae xs->∃vs,s.heap.IsList ad vs.toArray/\Vs ω xs vs:=λ{o r ad} e ea el=>by
   obtain⟨a',dU,l,H,-⟩:=HS.obj e;rw[ea] at dU;injection dU with dU;subst dU
   have H1:Sat c.C (AO.P (.lst xs) ω ad::l) s:=H.imp<|Jg el;refine nn λzn=>?_;obtain⟨vs,H2⟩:=Sat.ex.mp H1;obtain⟨hv,H3⟩:=Sat.pure.mp H2;rwa[zn,-zn,(bV vs H3.lst hv)]
  obtain⟨vs,hl,kv⟩:=key eo1 ea1 e1;obtain⟨ws,HZ,kw⟩:=key MV ea2 e2;erw [zn,-zn];have HX:vs.toArray.size=ws.toArray.size:=by simpa using kv.length.symm.trans kw.length
  have he:∀j (h1:j<vs.toArray.size) (h2:j<ws.toArray.size),EqAt A.in1 s vs.toArray[j] ws.toArray[j] ah:=λj h1 h2=>by
   refine nn λzn=>?_;obtain⟨x,ex,hx⟩:=zi kv (show vs[j]? =ae vs.toArray[j] by exact aI<|by assumption);obtain⟨y,ey,hy⟩:=zi kw (show ws[j]? =ae ws.toArray[j] by exact aI<|by assumption);erw [zn,-zn];rw[ex] at ey;injection ey with ey;subst ey
   exact RJ hu HS (a4.mp (show xs.all AV.eqb=ah from hq) x<|dv ex) hx hy
  cases op with
  |Eq=>
   injection e3 with e3;subst e3
   have h3:=RcAt.lists (A:=A) (e:=λz=>ah) hl HZ HX (LW hu) he;rw[t7] at h3;exact h3 _ _ _ _<|q _ h
  |NotEq=>
   injection e3 with e3;subst e3
   have h3:=RcNeAt.lists (A:=A) (e:=λz=>ah) hl HZ HX (LW hu) he;rw[t7] at h3;exact h3 _ _ _ _<|q _ h
  |_=>contradiction
 |none=>rwa[nq G F ?_ ha hb HS q,h]
 |int=>rwa[nq G F ?_ ha hb HS q,h]
 |str=>rwa[nq G F ?_ ha hb HS q,h]
 |bytes=>rwa[nq G F ?_ ha hb HS q,h]
 |tup=>rwa[nq G F ?_ ha hb HS q,h]
 |raw=>rwa[nq G F ?_ ha hb HS q,h]
 |opt=>exact h.elim
section
variable{r:Nat}{ad:br}
theorem Ji(h:(A5 c.p.N (.lst xs) j k).H)(eo:hp[r]? =ae (.lst xs))(ea:ω.ρ[r]? =ae ad)(HS:SA c R ω fr hp s)(hs:i0 slice)(q:∀v w s',(k v).H->v.Is ω w->SA c R ω fr hp s'->Q w s'):
 a6 (bc c.C) c.A (du value slice (.ref ad)<|.int j t) Q E s:=by
 refine nn λzn=>?_;obtain⟨hb,h⟩:=h
 (apply bq h;intro v ev hk)
 obtain⟨ws,l,hv,H,-⟩:=HS.lst eo ea;obtain⟨w,ew,iw⟩:=hv.at ev;rwa[zn,-zn,o7 H.lst.typeIs PySem.F.slot_list_getitem.lookup hs<|Uh H.lst (of_decide_eq_true (fj hb).1) (of_decide_eq_true (fj hb).2) (by simpa using ew)<|q _ _ _ hk iw HS]
theorem MY(h:(A5 c.p.N (.ba bs) j k).H)(eo:hp[r]? =ae (.ba bs))(ea:ω.ρ[r]? =ae ad)(HS:SA c R ω fr hp s)(hs:i0 slice)(q:∀v w s',(k v).H->v.Is ω w->SA c R ω fr hp s'->Q w s'):
 a6 (bc c.C) c.A (du value slice (.ref ad)<|.int j t) Q E s:=by
 refine nn λzn=>?_;obtain⟨hb,h⟩:=h
 (apply bq h;intro x hx hk)
 obtain⟨Eu,dU,l,H,back,-⟩:=HS.obj eo;erw [zn,-zn];rw[ea] at dU;injection dU with dU;subst dU
 exact o7 (Sat.Gi H) gb.lookup hs<|Rh (.head _) H hb.1.1 hb.1.2 hb.2 hx λt s' H'=>q _ _ _ hk (dz.mpr ⟨_,rfl⟩)<|back _ H'
theorem LH(G:Gl c.C c.K)(F:KF c.K)(rm:Rm c.C c.A c.p.N)(h:(A5 c.p.N (.tab n f) j k).H)(eo:hp[r]? =ae (.tab n f))(ea:ω.ρ[r]? =ae ad)(HS:SA c R ω fr hp s)(hs:i0 slice)(q:∀v w s',(k v).H->v.Is ω w->SA c R ω fr hp s'->Q w s'):
 a6 (bc c.C) c.A (du value slice (.ref ad)<|.int j t) Q E s:=by
 erw [nn λzn=>?_,aT h λhb hk=>?_,-h];obtain⟨Eu,dU,l,H,back,-⟩:=HS.obj eo;rw[ea] at dU;injection dU with dU;subst dU
 rwa[c4 (c6 hb.1.1) λj aH=>?_,zn,-zn,!aH,hb.2 G F rm hs H λt s' H'=>q _ _ _ hk (dz.mpr ⟨_,rfl⟩)<|back _ H']
theorem LJ(h:(I0 c.p.N (.tup xs) j hp k).H)(ha:(AV.tup xs).Is ω va)(HS:SA c R ω fr hp s)(hs:i0 slice)(q:∀v w s',(k v).H->v.Is ω w->SA c R ω fr hp s'->Q w s'):
 a6 (bc c.C) c.A (du value slice va<|.int j t) Q E s:=by
 (apply jA h;intro hb h)
 (apply bq h;intro v ev hk)
 (apply i3 ha;intro x vs hm hv)
 erw [nn λzn=>?_,c4 (HS.tup hm) λl H=>?_,aK (hv.at ev) λw ew iw=>?_,zn,-zn];have h0:=of_decide_eq_true (fj hb).1;have ju:j.toNat<vs.length:=(bg.mp ew).1
 have hsq:z5 j vs.toArray.size=ae j.toNat:=by
  have h1:¬(j<0):=by omega
  have h2:¬(j>=(vs.length:Int)):=by omega
  simp[z5,h1,h2]
 exact o7 (Sat.tup H).typeIs PySem.F.slot_tuple_getitem.lookup hs (getItem_tuple (j:=j.toNat) (Sat.tup H) (lG (aD _) h0) (of_decide_eq_true (fj hb).2) hsq (by simpa using ew)<|q _ _ _ hk iw HS)
theorem Jj(h:(A5 N o j k).H):(∃xs,o= .lst xs)\/(∃bs,o= .ba bs)\/∃n f,o= .tab n f:=by
 cases o<;>first |exact .inl (qI _ rfl) |exact .inr (.inl<|qI _ rfl) |exact .inr (.inr<|Cr _ _ rfl) |exact h.elim
theorem Jk(G:Gl c.C c.K)(F:KF c.K)(rm:Rm c.C c.A c.p.N)(h:(I0 c.p.N a j hp k).H)(ha:a.Is ω va)(HS:SA c R ω fr hp s)(hs:i0 slice)(q:∀v w s',(k v).H->v.Is ω w->SA c R ω fr hp s'->Q w s'):a6 (bc c.C) c.A (du value slice va<|.int j t) Q E s:=by
 cases a with
 |ref r=>
  (apply eM ha;intro ad ea)
  (apply bq h;intro o eo h)
  rcases Jj h with⟨xs,rfl⟩ |⟨bs,rfl⟩ |⟨n,f,rfl⟩
  . exact Ji h eo ea HS hs q
  . exact MY h eo ea HS hs q
  . exact LH G F rm h eo ea HS hs q
 |tup xs=>exact LJ h ha HS hs q
 |bytes b=>
  (apply eL ha;intro u)
  exact o7 (dJ s _ _) j2.lookup hs<|getItem_bytes (az h.1.2<|aa rfl) h.1.1.1 h.1.1.2<|q _ _ _ h.2 (dz.mpr ⟨_,rfl⟩) HS.toks
 |_=>exact h.elim
end
end
section
variable{c:Fm}{s:aE}{ω:Om}{R:List bp}{fr:Frs}{hp:List AO}{E:aG->aE->Prop}{A:c5}{k:AV->List AO->VC}{l:List bp}
theorem MZ(h:V9 a hp=ae n)(hz:n<=1000000)(hk:(k (.int n) hp).H)(ha:a.Is ω va)(HS:SA c R ω fr hp s)(q:Done c R ω fr k Q):aC (bc c.C) A (i5 (.builtin "len") [va]) Q E s:=by
 cases a with
 |ref r=>
  (apply eM ha;intro ad ea)
  erw [nn λzn=>?_,aK (ez.mp h) λo eo h=>?_]
  cases o with
  |lst xs=>
   erw [zn,-zn];injection h with h;subst h
   obtain⟨us,l,hv,H,-⟩:=HS.lst eo ea;exact call_len_list (items:=us.toArray) H.lst (by refine af a9<|dq hv.length ?_;lia) (q _ _ _ _ _ hk .rfl (dz.mpr ⟨_,by exact af a9<|af hv.length rfl⟩) HS.toks)
  |ba bs=>
   erw [zn,-zn];injection h with h;subst h
   obtain⟨Eu,dU,l,H,back,-⟩:=HS.obj eo;rw[ea] at dU;injection dU with dU;subst dU
   exact Rg (.head _) H hz λt s' H'=>q _ _ _ _ _ hk .rfl (dz.mpr ⟨_,rfl⟩)<|back _ H'
  |_=>erw [zn,-zn];contradiction
 |bytes b=>
  injection h with h;subst h
  (apply eL ha;intro t)
  exact len_bytes (by rwa[af a9,‹a<=1000000->a<=1099511627776› hz]) (q _ _ _ _ _ hk .rfl (dz.mpr ⟨_,by(first |exact a9 |exact congrArg _ a9 |exact af a9 rfl)⟩) HS.toks)
 |tup b=>
  injection h with h;subst h
  (apply i3 ha;intro x us hm hv)
  refine c4 (HS.tup hm) λl H=>?_;exact qaG (items:=us.toArray) H.tup (by refine af a9<|dq hv.length ?_;lia) (q _ _ _ _ _ hk .rfl (dz.mpr ⟨_,by exact af a9<|af hv.length rfl⟩) HS.toks)
 |_=>contradiction
theorem GK(hh:A.handled=aq)(h:(I2 a hp λb=>k (.bytes b) hp).H)(ha:a.Is ω va)(HS:SA c R ω fr hp s)(q:Done c R ω fr k Q):aC (bc c.C) A (i5 (.type "bytes") [va]) Q E s:=by
 cases a with
 |ref r=>
  (apply eM ha;intro ad ea)
  (apply bq h;intro o eo h)
  cases o with
  |ba bs=>
   obtain⟨Eu,dU,l,H,back,-⟩:=HS.obj eo;rw[ea] at dU;injection dU with dU;subst dU
   exact AY (.head _) H h.1 λt s' H'=>q _ _ _ _ _ h.2 .rfl (ik.mpr ⟨_,rfl⟩)<|back _ H'
  |lst xs=>
   obtain⟨Eu,dU,l,H,back,-⟩:=HS.obj eo;rw[ea] at dU;injection dU with dU;subst dU
   (apply Sat.Ax H;intro us H1)
   (apply Sat.sW H1;intro hx H2)
   (apply jA h;intro hz h)
   refine aK (Jf h hx) λbs h1 h2=>?_;exact xE hh h1 (by rwa[dq h1.length<|dq hx.length ?_,aa hz]) H2 λt s' H'=>q _ _ _ _ _ h2 .rfl (ik.mpr ⟨_,rfl⟩)<|back _<|H'.imp λg hg=>⟨us,hx,hg⟩
  |_=>exact h.elim
 |bytes b=>
  (apply eL ha;intro t)
  exact RC<|q _ _ _ _ _ h .rfl (ik.mpr ⟨t,rfl⟩) HS
 |_=>exact h.elim
theorem RK(h:Es a t=ae p)(ha:a.Is ω va)(HS:SA c R ω fr hp s)(q:∀s',SA c R ω fr hp s'->Q (.bool p) s'):aC (bc c.C) A (i5 (.builtin "isinstance") [va,.type t]) Q E s:=by
 cases a with
 |int i=>
  (apply cx ha;intro u)
  by_cases e:t="int"
  . subst e;(injection h with h;subst h);exact IsiPair.int_int<|q _ HS
  . by_cases e2:t="bool"
    . subst e2;(injection h with h;subst h);exact IsiPair.int_bool<|q _ HS.toks
    . unfold Es at h;rw[if_neg e,if_neg e2] at h;contradiction
 |tup xs=>
  (apply i3 ha;intro x us hm hv)
  erw [nn λzn=>?_,c4 (HS.tup hm) λl H=>?_];by_cases e:t="tuple"<;>(refine zn ?_;clear zn)
  . subst e;(injection h with h;subst h);exact MH H<|q _ HS
  . unfold Es at h;rw[if_neg e] at h;contradiction
 |_=>contradiction
theorem Jl(G:Gl c.C c.K)(F:KF c.K)(h:Pd a hp=ae xs)(hz:xs.length<=1000000)(hk:(k (.ref hp.length)<|hp++[.lst xs]).H)(ha:a.Is ω va)(HS:SA c R ω fr hp s)(q:Done c R ω fr k Q):aC (bc c.C) A (i5 (.type "list") [va]) Q E s:=by
 cases a with
 |ref r=>
  (apply eM ha;intro ad ea)
  erw [nn λzn=>?_,aK (ez.mp h) λo eo h=>?_]
  cases o with
  |lst ys=>
   erw [zn,-zn];injection h with h;subst h
   rwa[dF (HS.lst eo ea) λus l hv H back=>?_,I7 (by rwa[dq hv.length,hz]) H λx s' H'=>q.lst HS hk hv<|back _ _ H']
  |_=>erw [zn,-zn];contradiction
 |raw z=>
  cases z with
  |ref t=>
   apply rV ha;refine nn λzn=>?_;obtain⟨l,H0,-⟩:=HS.sat;obtain⟨us,hg,-,hv⟩:=Ba (ω:=ω) G F H0 h;erw [zn,-zn];have hl:=hv.length;refine qfg t (.inr rfl) hg rfl rfl (λh' c' k' e'=>q.lst HS hk hv<|HS.into λl Hl=>?_) (by erw [af bw];simp;exact‹a<=1000000->a==b->b<=16777216› hz hl);have:=Hl.grow (t:=s.toks) k' e';rw[bU<|not_eq_of_beq_eq_false rfl] at this;exact this.imp λg hg=>⟨_,hg⟩
  |_=>contradiction
 |_=>contradiction
theorem CX{k}(h:(LD v k).H):∃t,v= .raw (.type t)/\(k t).H:=by
 cases v with
 |raw z=>cases z<;>first |exact(bV _ rfl h) |exact cq h
 |_=>exact cq h
theorem M0(G:Gl c.C c.K)(F:KF c.K)(hh:A.handled=aq)(h:(Wa n vs hp k).H)(hv:Vs ω vs ws)(HS:SA c R ω fr hp s)(q:Done c R ω fr k Q):a6 (bc c.C) A (i5 (kM n) ws) Q E s:=by
 match n,h with
 |0,h=>
  erw [nn λzn=>?_,aK (iZ h) λx aH h=>?_,!aH,aK (we h) λp aH hk=>?_,!aH,aK (LG hv) λw aH hb=>?_,zn,-zn,!aH];apply pR hb;exact a6.of (call_int_bool<|q (.int<|Pe p) _ _ _ _ hk .rfl (dz.mpr ⟨_,by cases p<;>rfl⟩) HS.toks)
 |1,h=>
  rwa[nn λzn=>?_,aK (iZ h) λx aH h=>?_,!aH,dh (bX h) λm e hz hk=>?_,aK (LG hv) λw aH hb=>?_,zn,-zn,!aH,a6.of<|MZ e hz hk hb HS q]
 |3,h=>
  rwa[nn λzn=>?_,aK (iZ h) λx aH h=>?_,!aH,aK (LG hv) λw aH hb=>?_,zn,-zn,!aH,a6.of<|GK hh h hb HS q]
 |4,h=>
  erw [aT (pP h) λaH hk=>?_,!aH];cases hv
  exact aK HS.qbs λl H put=>(Ri H λx s' H'=>q _ _ _ _ _ hk Om.gd (wt HS)<|(put _ _ H').adopt λg hg=>hg)
 |5,h=>
  erw [nn λzn=>?_,n6 (zg h) λx y aH h=>?_,!aH,aK (CX h) λt aH h=>?_,!aH,aK (bX h) λp e hk=>?_,dF (yR hv) λw w2 aH h1 h2=>?_,zn,-zn,!aH];apply rV h2;exact a6.of<|RK e h1 HS λs' H'=>q _ _ _ _ _ hk .rfl (gj.mpr rfl) H'
 |6,h=>
  erw [nn λzn=>?_,n6 (zg h) λx y aH h=>?_,!aH,aK (dH h) λi aH h=>?_,!aH,aK (dH h) λj aH hk=>?_,!aH,dF (yR hv) λw w2 aH h1 h2=>?_,zn,-zn,!aH]
  (apply cx h1;intro t)
  (apply cx h2;intro u)
  erw [aK HS.sat λl H back=>?_,a6.of<|min_two_ints hh λh' tk hkk=>q _ _ _ _ _ hk .rfl (dz.mpr ?_)<|back _<|H.ext hkk]
  split<;>exact⟨_,rfl⟩
 |7,h=>
  erw [nn λzn=>?_,aK (iZ h) λx aH h=>?_,!aH,aK (dH h) λi aH hk=>?_,!aH,aK (LG hv) λw aH h1=>?_,zn,-zn,!aH]
  (apply cx h1;intro t)
  exact a6.of<|call_abs_int λu tk=>q _ _ _ _ _ hk .rfl (dz.mpr ⟨_,rfl⟩) HS.toks
 |8,h=>
  rwa[nn λzn=>?_,aK (iZ h) λx aH h=>?_,!aH,aK (bX h) λxs e hk=>?_,aK (LG hv) λw aH h1=>?_,zn,-zn,!aH,a6.of<|Jl G F e hk.1 hk.2 h1 HS q]
 |2,h=>exact h.elim
 |n+9,h=>exact h.elim
theorem ug(h:xM nm=i)(hi:i<sJ.length):nm=Cy i:=by
 subst h;delta Cy xM at*;rwa[af (aW)<|af (aI hi) ?_,(dQ hi).symm]
theorem Pj(h:xA nm=i)(hi:i<FU.length):nm=OW i:=by
 subst h;delta OW xA at*;rwa[af (aW)<|af (aI hi) ?_,(dQ hi).symm]
theorem CY:Cy ij="append"/\Cy oO="extend"/\Cy mZ="bit_length"/\Cy AD="get"/\ij<sJ.length/\oO<sJ.length/\mZ<sJ.length/\AD<sJ.length:=by decide+kernel
theorem Sat.Ex{C}{ad}{xs}{v}(H:Sat C (jJ ad xs::l) s)(hz:xs.length<1000000){Q}(q:∀s',Sat C (jJ ad (xs++[v])::l) s'->Q .none s'):aC (bc C) A (i5 (.builtin "list.append") [.ref ad,v]) Q E s:=by
 refine c4 H.CF λn H2=>?_;have e0:=H2.get<|not_eq_of_beq_eq_false rfl;have hd:({cls:=.type "list",data:=.seq xs.toArray n}:fy).data= .seq xs.toArray n:=rfl;erw [gz ZW H.lst.typeIs entry_list_append ?_<|args_list_append _ _,(?_:aC _ _ (updateSeq ad (·.push v)>>=λz=>ret .none) _ _ s),ak (wpAny_updateSeq e0 hd (au<|bV .none rfl<|q _ ?_) (by rwa[af bw<|af a9 ?_,‹a<1000000->a<=16777216› hz])<|by rwa[af bw<|af (w7 _)<|af a9 ?_,‹a<1000000->a+1<=16777216+1› hz]),c4 (Qg hd (·.push v)) λn' D2=>?_];have Aa:=bj (K8 (·.push v)) e0<|K9 D2;have H3:=H2.set (t:=s.toks) (bu s.heap ad _) Aa (.inl ⟨λvs q=>by(rw[D2] at q;contradiction),by(first |exact(gg _ _) |exact congrArg _ (gg _ _) |exact af (gg _ _) rfl)⟩);rw[bU<|by rwa[af (gg _ _),not_eq_of_beq_eq_false rfl]] at H3;erw [H3.imp λg hg=>?_,!hg,⟨n',?_⟩]
 have:∀o:fy,o.cls= .type "list"->o.dict=aq->o.slots= #[]->o.data= .seq (xs.toArray.push v) n'->o={cls:=.type "list",data:=.seq (xs++[v]).toArray n'}:=by
  rintro⟨_,_,_,_⟩ rfl rfl rfl rfl;simp
 (first |exact(this _ rfl rfl rfl D2) |exact congrArg _ (this _ rfl rfl rfl D2) |exact af (this _ rfl rfl rfl D2) rfl)
def Ey(k y:Nat):String:=match k with
 |1=>if y=ij then "bytearray.append" else "bytearray.extend"
 |2=>"list.append"
 |_=>"dict.get"
abbrev Bb(o:AO)(y:Nat):String:=Ey (MA o) y
theorem RL{i:Nat}{ob:AO}{ad:br}{name:bI}(hy:I4 ob (xM name)=ah)(eo:hp[i]? =ae ob)(ea:ω.ρ[i]? =ae ad)(HS:SA c R ω fr hp s)(pl:qD Bool){Q':aG×List aG->aE->Prop}(q:Q' (.builtin<|Bb ob<|xM name,[.ref ad]) s):
 aC (bc c.C) A (k9 (.ref ad) name pl) Q' E s:=by
 refine nn λzn=>?_;obtain⟨Eu,dU,l,H,back,-⟩:=HS.obj eo;rw[ea] at dU;injection dU with dU;subst dU
 refine Vi CY λn1 n2 n3 n4 l1 l2 l3 l4=>?_
 cases ob with
 |ba bs=>
  erw [zn,-zn];by_cases e:xM name=ij
  . have q:Q' (.builtin "bytearray.append",[.ref ad]) s:=by have:=q;simp only[Bb,MA,Ey,e,if_true] at this;exact this
    obtain rfl:=(ug e l1).trans n1;exact j3 H.Gi jz je n8 (λa e=>by(injection e with e;subst e);exact(bV _ H.ba rfl)) q
  . have e2:xM name=oO:=by simpa[I4,MA,I3,e] using hy
    have q:Q' (.builtin "bytearray.extend",[.ref ad]) s:=by have:=q;simp only[Bb,MA,Ey,if_neg e] at this;exact this
    obtain rfl:=(ug e2 l2).trans n2;exact j3 H.Gi jz jf oa (λa e=>by(injection e with e;subst e);exact(bV _ H.ba rfl)) q
 |lst xs=>
  erw [zn,-zn];obtain⟨us,l,-,H1,-⟩:=HS.lst eo ea;obtain rfl:=(ug (show xM name=ij by exact bK hy) l1).trans n1;rwa[c4 H1.CF λn H2=>?_,j3 H1.lst.typeIs PySem.F.plainAttrs_list ZW type_list_append (λa e=>by(injection e with e;subst e);exact(bV _ (H2.get<|not_eq_of_beq_eq_false rfl) rfl)) q]
 |dct f=>
  erw [zn,-zn,dh (Sat.dit H) λf' h1 h2 H1=>?_];obtain rfl:=(ug (show xM name=AD by exact bK hy) l4).trans n4;have hm:=H1.ID
  exact j3 hm.typeIs PySem.F.plainAttrs_dict PySem.F.slot_dict_get PySem.F.type_dict_get (λa e=>by
   injection e with e;subst e
   obtain⟨o,es,ep,ho,hx,-⟩:=hm
   exact(bV o ho hx.2.1)) q
 |_=>erw [zn,-zn];contradiction
theorem RM{ad}(hy:I4 ob y=ah)(h:(bmW ob y i vs hp k).H)(eo:hp[i]? =ae ob)(ea:ω.ρ[i]? =ae ad)(hv:Vs ω vs ws)(HS:SA c R ω fr hp s)(q:Done c R ω fr k Q):
 a6 (bc c.C) A (i5 (.builtin<|Bb ob y)<|.ref ad::ws) Q E s:=by
 erw [nn λzn=>?_,aK (HS.obj eo) λEu dU aH=>?_,dh aH λl H back put=>?_,zn,-zn,-aH];rw[ea] at dU;injection dU with dU;subst dU
 cases ob with
 |ba bs=>
  unfold bmW at h
  cases e:b0 y ij with
  |true=>
   rw[e] at h;erw [nn λzn=>?_,aK (iZ h) λx aH h=>?_,!aH,dh (dH h) λj aH h1 hk=>?_,!aH,aK (LG hv) λw aH hw=>?_,zn,-zn,!aH]
   (apply cx hw;intro t)
   exact af (show Bb (.ba bs) y="bytearray.append" from if_pos<|bK e)<|Gj H .here h1.1.1 h1.1.2 h1.2 λs' H'=>q _ _ _ _ _ hk .rfl (fK.mpr rfl)<|put _ (.ba _) H'
  |false=>
   rw[e] at h;obtain⟨-,h⟩:=kj h;erw [af (show Bb (.ba bs) y="bytearray.extend" from if_neg λq=>by rw[q,ZN] at e;contradiction),nn λzn=>?_,aK (iZ h) λx aH h3=>?_,!aH,dh (o4 h3) λmore aH hz hk=>?_,!aH,aK (LG hv) λw aH hw=>?_,zn,-zn,!aH]
   (apply eL hw;intro t)
   exact Gp H .here hz λs' H'=>q _ _ _ _ _ hk .rfl (fK.mpr rfl)<|put _ (.ba _) H'
 |lst xs=>
  erw [nn λzn=>?_,c4 (Sat.ex.mp H) λus H1=>?_,aT (Sat.pure.mp H1) λhx H2=>?_];obtain⟨-,h⟩:=kj h;rwa[dh (iZ h) λx aH hz hk=>?_,!aH,aK (LG hv) λw aH hw=>?_,zn,-zn,!aH,a6.of<|H2.Ex (by rwa[dq hx.length,hz]) λs' H'=>q _ _ _ _ _ hk .rfl (fK.mpr rfl)<|put _ (.lst _)<|H'.imp λg hg=>⟨_,hx.append<|.cons hw .nil,hg⟩]
 |dct f=>
  refine nn λzn=>?_;obtain⟨-,h⟩:=kj h;erw [n6 (zg h) λx d aH h3=>?_,!aH,aK (dH h3) λi aH h4=>?_,!aH,dh (dH h4) λj aH h0 hk=>?_,!aH,dF (yR hv) λw w2 aH hw hw2=>?_,zn,-zn,!aH]
  (apply cx hw;intro t)
  (apply cx hw2;intro u)
  exact a6.of<|MM h0 H λv s' H'=>q _ _ _ _ _ hk .rfl (dz.mpr ⟨v,rfl⟩)<|back _ H'
 |_=>exact h.elim
end
structure Bs where
 o:Om
 m:Nat
structure Rn(c:Fm)(R:List bp)(cC:Bs):Prop where
 G:Gl c.C c.K
 F:KF c.K
 rm:Rm c.C c.A c.p.N
 sc:mr c.scope c.ns c.gs
 po:PassesOwn (bc c.C) c.A c.env c.E
 cs:∀x r,c.p.cm.lookup x=some r->(c.scope.names.lookup x=some .cell\/(c.p.cw=false/\c.scope.names.lookup x=some .free))/\(x==("__debug__":Str))=false/\(x==("__classdict__":Str))=false/\r<cC.m/\∃a,c.cl.lookup x=some a/\cC.o.ρ[r]? =some a
 hO:∀{e:Expr} {R' ω fr hp s} {k:AV->List AO->VC} {Q:Value->Shared->Prop},Mh e=true->Agree cC.m cC.o ω->SA c R' ω fr hp s->(c.p.O e fr hp k).H->Done c R' ω fr k Q->a6 (bc c.C) c.A (eval e c.env) Q c.E s
 hX:∀x hp' bb a s',(c.p.X x hp').H->Agree cC.m cC.o bb->bb.ρ.length=hp'.length->Sat c.C (yk a x::(dR bb bb.ρ hp'++(tups bb.τ++R))) s'->c.E (.ref a) s'
structure Now(c:Fm)(R:List bp)(cC:Bs)(ω:Om)(fr:Frs)(hp:List AO)(s:Shared):Prop where
 r:Rn c R cC
 g:Agree cC.m cC.o ω
 S:SA c R ω fr hp s
def Jm(c:Fm)(R:List bp)(ω:Om)(fr:Frs)(k:Bool->List AO->VC)(Q:Bool->aE->Prop):Prop:=∀p hp' bb s',(k p hp').H->mh ω bb->SA c R bb fr hp' s'->Q p s'
def Wf(c:Fm)(R:List bp)(ω:Om)(fr:Frs)(k:List AV->List AO->VC)(Q:List aG->aE->Prop):Prop:=∀v hp' bb w s',(k v hp').H->mh ω bb->Vs bb v w->SA c R bb fr hp' s'->Q w s'
noncomputable abbrev ev(c:Fm)(fr:Frs)(e:Expr):XE:=iR c.p fr<|tr c.ns c.gs e
abbrev evs(c:Fm)(fr:Frs)(es:List Expr):XE:=iR c.p fr<|Ak c.ns c.gs es
def SV(c:Fm)(e:Expr):Prop:=∀{R cC ω fr hp s k Q},Now c R cC ω fr hp s->((ev c fr e).v hp k).H->Done c R ω fr k Q->a6 (bc c.C) c.A (eval e c.env) Q c.E s
def ST(c:Fm)(e:Expr):Prop:=∀{R cC ω fr hp s k Q},Now c R cC ω fr hp s->((ev c fr e).t hp k).H->Jm c R ω fr k Q->a6 (bc c.C) c.A (lg e c.env<|eval e c.env) Q c.E s
structure iL(c:Fm)(e:Expr):Prop where
 v:SV c e
 t:ST c e
theorem Now.next(n:Now c R cC ω fr hp s)(ex:mh ω bb)(h:SA c R bb fr hp' s'):Now c R cC bb fr hp' s':=⟨n.r,n.g.ext ex,h⟩
theorem Done.ext(q:Done c R ω fr k Q)(ex:mh ω bb):Done c R bb fr k Q:=λv hp' ip w s' hk ex' hv H=>q v hp' ip w s' hk (ex.ext ex') hv H
theorem gZ(f:Frs->List AO->(AV->List AO->VC)->VC)(he:lg e c.env (eval e c.env)=(do let v<-eval e c.env;mL e.pos;iO [v] (DV v)))(hf:∀fr,(ev c fr e)=yl (f fr))(h:∀{R cC ω fr hp s k Q},Now c R cC ω fr hp s->(f fr hp k).H->Done c R ω fr k Q->a6 (bc c.C) c.A (eval e c.env) Q c.E s):iL c e:=
 ⟨λn hW q=>h n (by rw[hf] at hW;exact hW) q,λn hW q=>I6 he (h n (by rw[hf] at hW;exact hW) λv hp' bb w s' hk ex hv H=>by
  (apply GF hk hv;intro p hk)
  exact ic<|q _ _ _ _ hk ex H)⟩
theorem gS(h:tr c.ns c.gs e=ie):ev c fr e=iR c.p fr ie:=by(first |exact h.symm |exact congrArg _ h.symm |exact dq h rfl)
theorem jv(h:tr c.ns c.gs e= .bad):iL c e:=⟨λn hW q=>by rw[gS h] at hW;exact hW.elim,λn hW q=>by rw[gS h] at hW;exact hW.elim⟩
theorem M1(h:tr c.ns c.gs e= .oth e)(ho:Mh e=ah)(he:lg e c.env (eval e c.env)=(do let v<-eval e c.env;mL e.pos;iO [v] (DV v))):iL c e:=gZ _ he (λfr=>by erw [af (gS h)];rfl) λn hW q=>n.r.hO ho n.g n.S hW q
theorem o8(he:tr c.ns c.gs e=IU r ie)(h:r=ah->tr c.ns c.gs e=ie->iL c e):iL c e:=by
 cases r
 . exact jv he
 . exact h rfl he
theorem HF:iL c (.Constant k kk pos):=by
 have one:∀v:AV,tr c.ns c.gs (.Constant k kk pos)= .kB v\/(∀fr,ev c fr (.Constant k kk pos)=Rw v)->(∀{ω s} {Q:aG->aE->Prop},(∀w t,v.Is ω w->Q w {s with toks:=t})->aC (bc c.C) c.A (eval (.Constant k kk pos) c.env) Q c.E s)->iL c (.Constant k kk pos):=λv hv h=>
  gZ (λz hp k=>k v hp) rfl (λfr=>hv.elim (λh=>by erw [af (gS h)];rfl) λh=>h fr) λn hk q=>a6.of<|h λw t hw=>q _ _ _ _ _ hk .rfl hw n.S.toks
 cases k with
 |int i=>exact one (.int i) (.inr λz=>rfl) λq=>wpAny_Constant_int<|q _ _<|dz.mpr ⟨_,rfl⟩
 |none=>exact one .none (.inr λz=>rfl) λ{ω s Q} q=>wpAny_Constant_none<|q _ s.toks<|fK.mpr rfl
 |bool b=>exact one (.bool b) (.inr λz=>rfl) λ{ω s Q} q=>wpAny_Constant_bool<|q _ s.toks<|gj.mpr rfl
 |str x=>exact one (.str x) (.inr λz=>rfl) λq=>wpAny_Constant_str<|q _ _<|tC.mpr ⟨_,rfl⟩
 |bytes x=>exact one (.bytes x) (.inr λz=>rfl) λq=>PySem.W.Constant_bytes<|q _ _<|ik.mpr ⟨_,rfl⟩
 |_=>exact jv rfl
theorem kO(h:o6 nm=ae n):(nm,kM n)∈gX:=by
 obtain⟨hl,h1,-⟩:=tW.mp h;have e:(gX[n]).1=nm:=by simpa using h1
 have:kM n=(gX[n]).2:=by unfold kM;refine af (aI hl) ?_;rfl
 rwa[af this<|dq e ?_,f6 hl]
theorem RN{pos:Pos}{nm:bI}{C}{A}{K}{l}{scope}{ns}{gs}{qual}{L}{f}{cdv}{cl}(G:Gl C K)(F:KF K)(sc:mr scope ns gs)(hx:nm∈gs):A4 nm= .bad\/∃v,A4 nm= .kB v/\UE C A l (eo qual scope L f cdv cl) (.Name nm pos) (λw=>∀ω,v.Is ω w):=by
 unfold A4
 cases e1:vM.lookup nm with
 |some v=>exact .inr<|bV _ rfl<|(Im G sc hx<|F.O0 _<|gi e1).imp λw hw ω=>dz.mpr hw
 |none=>
  cases e2:oQ.lookup nm with
  |some v=>exact .inr<|bV _ rfl<|(mX G sc hx<|F.vO _<|gi e2).imp λw hw ω=>tD.mpr hw
  |none=>
   cases e3:o6 nm with
   |some n=>exact .inr<|bV _ rfl<|(vd G F sc hx<|kO e3).imp λw hw ω=>tD.mpr hw
   |none=>exact .inl rfl
theorem wu(h:(Gx r hp k).H):∃v,hp[r]? =ae (.fb<|ae v)/\(k v).H:=by
 (apply bq h;intro o e h)
 cases o with
 |fb v=>cases v with
  |none=>exact h.elim
  |some v=>exact(bV v e h)
 |_=>exact h.elim
theorem RO(n:Now c R cC ω fr hp s)(h:(aX (c.p.cm.lookup nm) λr=>Gx r hp λv=>k v hp).H)(q:Done c R ω fr k Q):aC (bc c.C) A (eval (.Name nm pos) c.env) Q E s:=by
 (apply bq h;intro r er h)
 erw [nn λzn=>?_,aK (wu h) λv ev hk=>?_,Mf (n.r.cs nm r er) λhs d1 d2 hr aH=>?_,aK aH λa ea eρ=>?_,-aH];obtain⟨ad,dU,l,H,-,-⟩:=n.S.obj ev;rw[n.g.same r hr,eρ] at dU;injection dU with dU;subst dU
 (apply Sat.Ax H;intro w H1)
 (apply Sat.sW H1;intro hw H2)
 erw [aT H2 λf aH=>?_,-H2,aK aH λg cX t=>?_,-aH,dF cX λg1 g2 gW jl hg=>?_,-cX,!gW,dh jl λo od oc oN=>?_,zn,-zn,-jl,!oN];have e0:s.heap.get? a=ae o:=Sat.get (C:=c.C) (R:=l) (o:=o) ⟨f,_,⟨_,_,rfl,rfl,hg⟩,t⟩ (by rwa[af oc,nofun])
 cases w with
 |none=>exact hw.elim
 |some w=>
  have go:=q v hp ω w s hk .rfl hw n.S;rcases hs with hs |⟨-,hs⟩
  . exact rl (Qk n.r.sc.kind hs ea ⟨o,e0,od⟩ go) d1
  . exact rl (wpAny_loadName_free n.r.sc.kind hs ea ⟨o,e0,od⟩ go d2) d1
theorem Jn:iL c (.Name nm pos):=by
 have key:tr c.ns c.gs (.Name nm pos)=D4 c.ns c.gs nm:=rfl;unfold D4 at key
 cases h1:c.ns.contains nm with
 |true=>
  rw[h1] at key;refine gZ (λfr hp k=>aX fr[c.ns.idxOf nm]? λo=>aX o λv=>k v hp) rfl (λfr=>by erw [af (gS key)];rfl) λ{R cC ω fr hp s k Q} n hk q=>a6.of ?_;have hm:nm∈c.ns:=by exact cY h1
  have hi:c.ns.idxOf nm<c.ns.length:=dX.mpr hm;have hx:c.ns[c.ns.idxOf nm]? =ae nm:=by exact af (aI hi)<|af (dQ _) rfl
  (apply bq hk;intro o e1 hk)
  (apply bq hk;intro v cK hk;subst cK)
  erw [nn λzn=>?_,aT n.S λhl aH=>?_,aK aH λvs hv H=>?_,-aH,aK (hv.at e1) λb hb ib=>?_]
  cases b with
  |none=>rwa[zn,-zn,ib.elim]
  |some w=>erw [zn,-zn];exact Cw n.r.sc List.mem_cons_self (At.nk hx hb) _ _ _ H λz s' ew H'=>by rwa[!ew,q v _ ω _ _ hk .rfl ib ⟨hl,vs,hv,H'⟩]
 |false=>
  rw[h1] at key
  cases h2:c.gs.contains nm with
  |false=>
   rw[h2] at key;exact gZ (λfr hp k=>aX (c.p.cm.lookup nm) λr=>Gx r hp λv=>k v hp) rfl (λfr=>by erw [af (gS key)];rfl) λ{R cC ω fr hp s k Q} n hk q=>a6.of<|RO n hk q
  |true=>
  rw[h2] at key;have hg:nm∈c.gs:=by exact cY h2
  have key:tr c.ns c.gs (.Name nm pos)=A4 nm:=key;refine⟨λ{R cC ω fr hp s k Q} n hW q=>?_,λ{R cC ω fr hp s k Q} n hW q=>?_⟩
  all_goals
   erw [nn λzn=>?_,aK n.S.sat λl H back=>?_];rcases RN (C:=c.C) (A:=c.A) (l:=l) (qual:=c.qual) (L:=c.L) (f:=c.f) (cdv:=c.cdv) (cl:=c.cl) (pos:=pos) n.r.G n.r.F n.r.sc hg with hb |⟨v,hv,evn⟩<;>(refine zn ?_;clear zn)
   . rw[gS<|key.trans hb] at hW;exact hW.elim
   . rw[gS<|key.trans hv] at hW
     first
      |exact a6.of<|evn _ _ _ H λw s' hw H'=>q v _ ω w _ hW .rfl (hw _)<|back _ H'
      |(refine I6 rfl (a6.of<|evn _ _ _ H λw s' hw H'=>?_)
        (apply o3 hW;intro p cK hk;subst cK)
        cases gj.mp (hw ω)
        exact ic<|q _ _ _ _ hk .rfl<|back _ H')
set_option tactic.hygienic true in
theorem yo(h:ry v=ah)(hv:v.Is ω w):Ol w=ah:=by
 cases v<;>(first |contradiction |cases h)
 . apply tE hv;rfl
 . apply pR hv;rfl
 . (apply cx hv;intro t);rfl
 . (apply kN hv;intro t);rfl
 . (apply eL hv;intro t);rfl
 . (apply eM hv;intro t _);rfl
 . (apply i3 hv;intro t _ _ _);rfl
 . rename_i o;cases o with |none=>cases(show w= .none from hv);rfl |some i=>refine c4 ((show ∃t,w= .int i t from hv)) λt aH=>?_;subst aH;rfl
theorem Wg{v:AV}(h:v.Is ω w):v.un.Is ω w:=by
 cases v with
 |opt o=>cases o<;>exact h
 |_=>exact h
theorem rX(h:xY (qQ c) (xA nm)=ae i):qQ c≠[]/\(eG c)[i]? =ae nm:=by
 have e:=Eg h;have hm:xA nm∈qQ c:=dv e;have mO:qQ c≠[]:=λe=>by rw[e] at hm;contradiction
 refine⟨mO,?_⟩;unfold eG;rwa[af (dD)<|af e ?_,congrArg ae (Pj rfl<|(QM _<|AF mO).2.2 _ hm).symm]
theorem M3(h:qX n ws y=ae v):∃i,xY (qQ n) y=ae i/\ws[i]? =ae (ae v)/\ry v=ah:=by
 unfold qX at h
 cases hc:xY (qQ n) y with
 |none=>rw[hc] at h;contradiction
 |some i=>
  rw[hc] at h;have h:A6 ws[i]? =ae v:=h
  cases e:ws[i]? with
  |none=>rw[e] at h;contradiction
  |some o=>
   rw[e] at h
   cases o with
   |none=>contradiction
   |some w=>
    have h:ifH w (ry w)=ae v:=h
    cases e2:ry w with
    |false=>rw[e2] at h;contradiction
    |true=>rw[e2] at h;(injection h with h;subst h);exact(oK i rfl e e2)
theorem RP{K:qo}{ad}(G:Gl C K)(F:KF K)(h:qX n ws (xA nm)=ae v)(ho:A3 ω ws vs')(H:Sat C (lO ad n (eG n) vs'::l') s)(q:∀w s',v.Is ω w->Sat C (lO ad n (eG n) vs'::l') s'->Q w s'):aC (bc C) A (rn (.ref ad) nm ah) Q E s:=by
 erw [nn λzn=>?_,dh (M3 h) λi hc eo hh=>?_,aK (ho.at eo) λb hb ib=>?_]
 cases b with
 |none=>rwa[zn,-zn,ib.elim]
 |some w=>rwa[zn,-zn,Ip G (CB F (rX hc).1) (.head _) (At.nk (rX hc).2 hb) (yo hh ib) H λs' H'=>q w s' ib H']
theorem zj{hp:List AO}{i:Nat}{ad:br}(eo:hp[i]? =ae (.inst n ws))(ea:ω.ρ[i]? =ae ad)(HS:SA c R ω fr hp s):∃vs' l,A3 ω ws vs'/\Sat c.C (lO ad n (eG n) vs'::l) s/\
 (∀s',Sat c.C (lO ad n (eG n) vs'::l) s'->SA c R ω fr hp s')/\∀s' ws2 yR,A3 ω ws2 yR->Sat c.C (lO ad n (eG n) yR::l) s'->SA c R ω fr (hp.set i<|.inst n ws2) s':=by
 erw [nn λzn=>?_,aK (HS.obj eo) λEu dU aH=>?_,dh aH λl H back put=>?_,zn,-zn,-aH];rw[ea] at dU;injection dU with dU;subst dU
 (apply Sat.Ax H;intro vs' H1)
 (apply Sat.sW H1;intro ho H2)
 exact(F5 vs' l ho H2 (λs' H'=>back _<|H'.imp λg hg=>⟨vs',ho,hg⟩) λs' ws2 yR h2 H'=>put _ (.inst _ ws2)<|H'.imp λg hg=>⟨yR,h2,hg⟩)
theorem Jo{i:Nat}{ad:br}(G:Gl c.C c.K)(F:KF c.K)(eo:hp[i]? =ae (.inst n ws))(ea:ω.ρ[i]? =ae ad)(hv:qX n ws (xA nm)=ae v)(HS:SA c R ω fr hp s)(q:∀w s',v.Is ω w->SA c R ω fr hp s'->Q w s'):aC (bc c.C) c.A (rn (.ref ad) nm ah) Q E s:=by
 obtain⟨vs',l,ho,H,back,-⟩:=zj eo ea HS;exact RP G F hv ho H λw s' hw H'=>q w s' hw<|back _ H'
theorem GN(h:xA nm=Ir):nm="have":=(Pj h<|aA _).trans (by rfl)
theorem Jp(h:(OK N k).H):∃n,N=n+1/\(k n).H:=by cases N with |zero=>exact h.elim |succ n=>exact(bV n rfl h)
theorem Jq{P:Prop}(h:(OK N k).H)(q:∀n,N=n+1->(k n).H->P):P:=let⟨n,e,h⟩:=Jp h;q n e h
theorem Jr{ad:br}(n:Now c R cC ω fr hp s)(h:(Pf c.p.N i (xA nm) ob hp k).H)(eo:hp[i]? =ae ob)(ea:ω.ρ[i]? =ae ad)(q:Done c R ω fr k Q):a6 (bc c.C) c.A (rn (.ref ad) nm ah) Q c.E s:=by
 (apply wi h;intro m ws cK h2;subst cK)
 cases e:qX m ws (xA nm) with
 |some v=>
  rw[e] at h2;exact a6.of<|Jo n.r.G n.r.F eo ea e n.S λw s' hw H'=>q _ _ _ _ _ h2 .rfl (Wg hw) H'
 |none=>
  rw[e] at h2
  (apply jA h2;intro hy h3)
  (apply Jq h3;intro d hN h4)
  obtain rfl:=GN<|bK (fj hy).1;refine nn λzn=>?_;obtain rfl:=bK (fj hy).2;obtain⟨vs',l,ho,Hi,-,-⟩:=zj eo ea n.S;erw [aT n.S λHZ aH=>?_,aK aH λyR U9 H2=>?_,zn,-zn,-aH];have rm:=n.r.rm;rw[hN] at rm;refine GD n.r.G n.r.F Hi<|LV.run h4 n.r.G n.r.F rm.in1 (R:=ml c.L c.ns yR::R) (.cons (gY.mpr<|bV ad ea rfl) .nil) (aA _) HZ ((H2.perm pf).toks) (λv hp' ip w s2 hk ag jk hw H'=>?_) λx hp' ip a s2 hk ag jk H'=>hk.elim;have ex':mh ω ip:=by unfold mh;rwa[af HZ,ag]
  (apply jA (show(rP (ry v)<|k v hp').H from hk);intro hk1 mf)
  exact⟨yo hk1 hw,q v hp' ip w s2 mf ex' hw ⟨jk,yR,U9.ext ex',H'.perm pf.symm⟩⟩
theorem Js(h:iL c o):iL c (.Attribute o nm pos):=
 o8 (show tr c.ns c.gs (.Attribute o nm pos)=_ from rfl) λhp key=>gZ _ rfl (λfr=>by refine af (gS key) ?_;rfl) λn hW q=>MO hp (h.v n hW λv hp' bb w s' hk ex hv H=>by
  (apply wq hk hv;intro i ad ea hk)
  (apply bq hk;intro ob eo hk)
  exact Jr (n.next ex H) hk eo ea<|q.ext ex)
theorem M4(ha:iL c a)(hb:iL c b):iL c (.BinOp a op b pos):=
 gZ _ rfl (λfr=>rfl) λn hW q=>VW<|ha.v n hW λv ee da w s1 hk ex hv H=>hb.v (n.next ex H) hk λv2 fO ip w2 s2 mf nL t8 H2=>a6.of<|MW mf (hv.ext nL) t8 H2<|q.ext<|ex.ext nL
theorem RQ(ha:iL c a):iL c (.UnaryOp op a pos):=by
 cases op with
 |USub=>exact gZ _ rfl (λfr=>rfl) λn hW q=>Wd (ha.v n hW λv ee da w s1 hk ex hv H=>by
  (apply rW hk hv;intro i t hk)
  exact PySem.P.neg_int<|q _ _ _ _ _ hk ex (dz.mpr ⟨_,rfl⟩) H.toks)
 |Not=>exact⟨λn hW q=>cq hW,λn hW q=>RA<|ha.t n hW λp ee da s1 hk ex H=>q _ _ _ _ hk ex H⟩
 |_=>exact jv rfl
theorem M5:(∀e∈es,iL c e)->∀{R cC ω fr hp s k Q},Now c R cC ω fr hp s->((evs c fr es).l hp k).H->Wf c R ω fr k Q->rS c.C c.A c.env c.E es Q s:=by
 induction es with
 |nil=>
  intro _ R cC ω fr hp s k Q n hW q;exact q [] hp ω [] s hW .rfl .nil n.S
 |cons e es ih=>
  intro h R cC ω fr hp s k Q n hW q;exact(h e<|.head _).v n hW λv ee da w s1 hk ex hv H=>
  ih (λe he=>h e<|.tail _ he) (n.next ex H) hk λvs fO ip ws s2 mf nL t8 H2=>q (v::vs) fO ip (w::ws) s2 mf (ex.ext nL) (.cons (hv.ext nL) t8) H2
theorem M6(h:∀e∈es,iL c e):iL c (.Tuple es kk pos):=
 o8 (show tr c.ns c.gs (.Tuple es kk pos)=_ from rfl) λhz key=>gZ _ rfl (λfr=>by refine af (gS key) ?_;rfl) λn hW q=>by
  erw [af (arm_eval_Tuple _ _ _ _),ou<|aR<|rS.spl hz<|M5 h n hW λvs ee da ws s1 hk ex hv H=>a6.of ?_]
  (apply jA hk;intro hz hk)
  have hz:=aa hz;erw [PySem.wpAny_newTuple ?_ (by refine af bw<|dq hv.length ?_;lia),q _ _ (da.xF s1.heap.objs.size<|.tup ws) _ _ hk (ex.ext Om.oX) (Ac.mpr<|qJ _ ws (.head _) rfl<|hv.ext Om.oX)<|SA.IP<|H.into λl Hl=>?_];have H2:=Hl.alloc (o:={cls:=.type "tuple",data:=.seq ws.toArray}) (t:=s1.toks) rfl;rw[bU<|not_eq_of_beq_eq_false rfl] at H2;exact H2.imp λg hg=>⟨_,hg⟩
theorem M7(h:∀e∈es,iL c e):iL c (.List es pos):=
 o8 (show tr c.ns c.gs (.List es pos)=_ from rfl) λhz key=>gZ _ rfl (λfr=>by refine af (gS key) ?_;rfl) λn hW q=>by
  erw [af (arm_eval_List _ _ _),ou<|aR<|rS.spl hz<|M5 h n hW λvs ee da ws s1 hk ex hv H=>a6.of ?_]
  (apply jA hk;intro hz hk)
  have hz:=aa hz;exact PySem.wpAny_newList ((q.ext ex).lst H hk hv<|H.into λl Hl=>pQ Hl) (by refine af bw<|dq hv.length ?_;lia)
theorem M8(hm:Hu op b=ao)(he:tr c.ns c.gs (.Compare a [op] [b] pos)= .cmp op (tr c.ns c.gs a) (tr c.ns c.gs b))(ha:iL c a)(hb:iL c b):iL c (.Compare a [op] [b] pos):=
 ⟨λn hW q=>by
  rw[gS he] at hW;exact Ry hm<|ha.v n hW λv ee da w s1 hk ex hv H=>hb.v (n.next ex H) hk λv2 fO ip w2 s2 mf nL t8 H2=>Ew n.r.G n.r.F n.r.rm mf (hv.ext nL) t8 H2 λp HB=>q _ _ _ _ _ HB (ex.ext nL) (gj.mpr rfl) H2,λn hW q=>by
  rw[gS he] at hW
  exact Rz hm<|ha.v n hW λv ee da w s1 hk ex hv H=>hb.v (n.next ex H) hk λv2 fO ip w2 s2 mf nL t8 H2=>Ew n.r.G n.r.F n.r.rm mf (hv.ext nL) t8 H2 λp HB=>ic<|q _ _ _ _ HB (ex.ext nL) H2⟩
theorem Jt{c:Fm}:∀{ops:List lK} {bs:List Expr},ops.length=bs.length->(iR c.p fr<|My ops<|Ak c.ns c.gs bs).isNil=ops.isEmpty
 |[],[],_=>rfl
 |_::_,_::_,_=>rfl
 |[],_::_,h=>by contradiction
 |_::_,[],h=>by contradiction
theorem RR:∀{bs:List Expr},ops≠[]->ops.length=bs.length->(∀e∈bs,iL c e)->∀{R cC ω fr hp s k x w},Now c R cC ω fr hp s->((iR c.p fr<|My ops<|Ak c.ns c.gs bs).c x hp k).H->AV.Is ω x w->Jm c R ω fr k Q->MB c.C c.A c.env c.E Q ops bs w s:=by
 induction ops with
 |nil=>exact λmO=>absurd rfl mO
 |cons op ops ih=>
  intro bs _ hl h R cC ω fr hp s k x w n hW hx q
  cases bs with
  |nil=>contradiction
  |cons e bs=>
   refine(h e<|.head _).v n hW λy ee da wy s1 hk ex hy H=>(nq n.r.G n.r.F hk (hx.ext ex) hy H λp hk=>ic ?_);have hl:=gN hl;rw[Jt (c:=c) (fr:=fr) (ops:=ops) (bs:=bs) hl] at hk
   cases ops with
   |nil=>exact q _ _ _ _ hk ex H
   |cons op2 ops=>
    cases p with
    |false=>exact q _ _ _ _ hk ex H
    |true=>exact ih (nofun) hl (λe he=>h e<|.tail _ he) (n.next ex H) hk hy λp hp' bb s' HB ex' H'=>q p hp' bb s' HB (ex.ext ex') H'
theorem Bc(ha:iL c a)(hb:∀b∈bs,iL c b):iL c (.Compare a ops bs pos):=
 o8 (show tr c.ns c.gs (.Compare a ops bs pos)=_ from rfl) λhz key=>by
  simp only[bG,dC,beq_iff_eq] at hz;erw [aT hz λhm hl=>?_,-hz]
  cases ops with
  |nil=>cases bs with
   |nil=>exact⟨λn hW q=>by rw[gS key] at hW;exact hW.elim,λn hW q=>by rw[gS key] at hW;exact I5 hm rfl<|ha.v n hW λv ee da w s1 hk ex hv H=>cq hk⟩
   |cons _ _=>contradiction
  |cons op ops=>cases bs with
   |nil=>contradiction
   |cons b bs=>cases ops with
    |nil=>cases bs with
     |nil=>exact M8 (by simpa[ZV] using hm) key ha<|hb b<|.head _
     |cons _ _=>exact absurd (gN hl) (w9 _).symm
    |cons op2 ops=>cases bs with
     |nil=>exact absurd (gN hl)<|w9 _
     |cons b2 bs=>exact⟨λn hW q=>by rw[gS key] at hW;exact hW.elim,λn hW q=>by
      rw[gS key] at hW
      exact I5 hm (by trivial)<|ha.v n hW λv ee da w s1 hk ex hv H=>RR (by exact nofun) (by trivial) hb (n.next ex H) hk hv λp hp' bb s' HB ex' H'=>q p hp' bb s' HB (ex.ext ex') H'⟩
theorem Wh:(∀e∈es,iL c e)->∀{R cC ω fr hp s k},Now c R cC ω fr hp s->((evs c fr es).b (op== .Or) hp k).H->Jm c R ω fr k Q->a6 (bc c.C) c.A (Lh op es c.env) Q c.E s:=by
 induction es with
 |nil=>
  intro _ R cC ω fr hp s k n hW q;exact Gy (q _ _ _ _ (by cases op<;>exact hW) .rfl n.S)
 |cons e es ih=>
  intro h R cC ω fr hp s k n hW q
  exact Gz ((h e<|.head _).t n hW λp ee da s1 hk ex H=>by
  cases e1:p==(op== .Or) with
  |true=>
   rw[e1] at hk;rwa[af (if_pos<|beq_iff_eq.mp e1)<|af (beq_iff_eq.mp e1) ?_,q _ _ _ _ hk ex H]
  |false=>
   rw[e1] at hk;erw [af (if_neg λe2=>by rw[e2,beq_self_eq_true] at e1;contradiction)]
   exact ih (λe he=>h e<|.tail _ he) (n.next ex H) hk λp hp' bb s' HB ex' H'=>q p hp' bb s' HB (ex.ext ex') H')
theorem RT:(∀e∈es,iL c e)->∀{R cC ω fr hp s k},Now c R cC ω fr hp s->((evs c fr es).c (.bool<|op== .Or) hp λq hp=>k (.bool q) hp).H->Done c R ω fr k Q->a6 (bc c.C) c.A (boolOp p op<|OB es c.env) Q c.E s:=by
 induction es with
 |nil=>intro _ R cC ω fr hp s k n hW q;exact cq hW
 |cons e es ih=>
  intro h R cC ω fr hp s k n hW q
  cases es with
  |nil=>
   exact(h e<|.head _).v n hW λv ee da w s1 hk ex hv H=>by
    (apply o3 hk;intro b cK hk;subst cK)
    exact q _ _ _ _ _ hk ex hv H
  |cons e2 es=>
   refine mC ((h e<|.head _).v (Q:=λv s1=>a6 (bc c.C) c.A (do mL p;let t<-iO [v] (DV v);match op,t with |.And,ao |.Or,ah=>cg v |_,_=>boolOp p op<|OB (e2::es) c.env) Q c.E s1) n hW λv ee da w s1 hk ex hv H=>?_) λz z x=>x
   (apply o3 hk;intro b cK hk;subst cK)
   cases gj.mp hv
   have hk:(match b==(op== .Or) with |true=>VC.H (k (.bool b) ee) |false=>((evs c fr<|e2::es).c (.bool<|op== .Or) ee λq hp=>k (.bool q) hp).H):=by cases b<;>cases op<;>exact hk
   erw [ou,Qu<|a6.of<|ic ?_];cases op<;>cases b
   . exact aY<|q _ _ _ _ _ hk ex (gj.mpr rfl) H
   . exact ih (λe he=>h e<|.tail _ he) (n.next ex H) hk<|q.ext ex
   . exact ih (λe he=>h e<|.tail _ he) (n.next ex H) hk<|q.ext ex
   . exact aY<|q _ _ _ _ _ hk ex (gj.mpr rfl) H
theorem Ju(h:∀b∈es,iL c b):iL c (.BoolOp op es pos):=⟨λn hW q=>RT h n hW q,λn hW q=>MD<|Wh h n hW q⟩
theorem M9(ht:iL c t)(ha:iL c a)(hb:iL c b):iL c (.IfExp t a b pos):=⟨λn hW q=>MC (ht.t n hW λp ee da s1 hk ex H=>by
 cases p with
 |true=>exact ha.v (n.next ex H) hk<|q.ext ex
 |false=>exact hb.v (n.next ex H) hk<|q.ext ex),λn hW q=>cq hW⟩
theorem F2.raws:∀vs:List aG,F2 (λ(c:aG) b=>(AV.raw c).Is ω b) vs vs
 |[]=>.nil
 |_::vs=>.cons rfl<|F2.raws vs
theorem Na(h:(Wc x y hp k).H)(hx:x.Is ω vx)(hy:y.Is ω vy)(HS:SA c R ω fr hp s)(q:Done c R ω fr k Q):∃T id,cD (.type T) "__getitem__"=cg (ae<|.builtin id)/\
 ({s with heap:=s.heap.push {cls:=.type "slice",data:=.fields #[.none,vy,.none]}}:aE).TypeIs vx T/\aC (bc c.C) A (ru vx<|.ref s.heap.objs.size) Q E {s with heap:=s.heap.push {cls:=.type "slice",data:=.fields #[.none,vy,.none]}}:=by
 erw [aK (dH h) λj aH h=>?_,!aH]
 (apply cx hy;intro t)
 cases x with
 |ref i=>
  (apply eM hx;intro ad ea)
  erw [nn λzn=>?_,aK (bX h) λo eo h=>?_,dh (bX h) λxs ec hz hk=>?_]
  refine zn ?_;clear zn;have tk:∀{xs:List AV} {ws:List aG} (n:Nat),Vs ω xs ws->Vs ω (xs.take n) (ws.take n):=λn h=>by
   induction h generalizing n with
   |nil=>rwa[af sH<|af sH ?_,.nil]
   |cons p _ ih=>cases n with |zero=>exact .nil |succ n=>exact .cons p<|ih n
  cases o with
  |lst ys=>
   injection ec with ec;subst ec
   rwa[dF (HS.lst eo ea) λus l hv H back=>?_,MI hz.1 (by rwa[dq hv.length,hz.2]) H λx s' H'=>q.lst HS hk (tk _ hv)<|back _ _ H']
  |IL vs o=>
   injection ec with ec;subst ec
   erw [nn λzn=>?_,aK (HS.VY eo) λEu dU aH=>?_,aK aH λl H back=>?_,-aH];rw[ea] at dU;injection dU with dU;subst dU
   rwa[aT (Sat.pure.mp H) λaH H=>?_,aT aH λhc cX=>?_,-aH,c4 cX λn hd=>?_,zn,-zn,-cX,I8 hc hd hz.1 (by have:=hz.2;rw[a3] at this;exact this) H λx s' H'=>q.lst HS hk (tk _<|F2.A2.mpr<|F2.raws vs)<|back _ _<|iC<|(iC H').imp λg hg=>⟨⟨hc,n,hd⟩,hg⟩]
  |_=>contradiction
 |bytes b=>
  (apply eL hx;intro u)
  exact aK HS.sat λl H back=>(MK h.1.1 h.1.2 H λu' s' H2=>q _ _ _ _ _ h.2 .rfl (ik.mpr ⟨u',rfl⟩)<|back _ H2)
 |_=>exact h.elim
theorem CZ(h:mH i=ah):∃a b d p,i= .Slice a b d p:=by
 exact c4 (mn.mp h) λr e=>((QC _ _ _ _<|Aw e))
theorem Ez(c:Fm)(a b d:Option Expr):(∃e,a=aq/\b=ae e/\d=aq)\/FX a b d (tro c.ns c.gs b)= .bad:=by
 cases a with
 |some=>exact .inr rfl
 |none=>
  cases b with
  |none=>exact .inr rfl
  |some e=>
   cases d with
   |some=>exact .inr rfl
   |none=>exact .inl<|oK e rfl rfl rfl
theorem GO:iL c (.Slice a b d pos):=by
 rcases Ez c a b d with⟨e,rfl,rfl,rfl⟩ |h
 . exact⟨λn hW q=>hW.elim,λn hW q=>hW.elim⟩
 . exact jv h
theorem Jv:iL c (.Dict ks vs pos):=by
 cases ks with
 |cons=>exact jv rfl
 |nil=>
  cases vs with
  |cons=>exact jv rfl
  |nil=>
   refine gZ _ rfl (λfr=>rfl) λ{R cC ω fr hp s k Q} n hW q=>?_;obtain⟨l,H0,-⟩:=n.S.sat;have hs:1<s.heap.objs.size:=aZ (aa rfl:1<29)<|lr<|n.r.G.X H0 _ _<|n.r.F.rG (29,_)<|.head _;exact a6.of<|wpAny_Dict_empty<|q _ _ _ _ _ hW Om.gd (wt n.S)<|(n.S.into (P:=Mw s.heap.objs.size λz=>aq) λl Hl=>I9 hs Hl).adopt λg hg=>hg
theorem Jw(ho:iL c o)(hi:iL c i)(Z3:∀b p,i= .Slice aq (ae b) aq p->iL c b):iL c (.Subscript o i pos):=by
 have key:tr c.ns c.gs (.Subscript o i pos)=D5 i (tr c.ns c.gs o) (tr c.ns c.gs i):=rfl
 cases hs:mH i with
 |true=>
  erw [yX (CZ hs) λa b d p aH=>?_,!aH];rcases Ez c a b d with⟨e,rfl,rfl,rfl⟩ |h
  . have he:=Z3 e p rfl
    exact gZ _ rfl (λfr=>rfl) λn hW q=>We<|ho.v n hW λv ee da w s1 hk ex hv H=>he.v (n.next ex H) hk λv2 fO ip w2 s2 mf nL t8 H2=>Na mf (hv.ext nL) t8 H2<|q.ext<|ex.ext nL
  . exact jv<|congrArg (Pc _) h
 |false=>
  have key:tr c.ns c.gs (.Subscript o i pos)= .item (tr c.ns c.gs o) (tr c.ns c.gs i):=by rw[key,D5,hs]
  have hs:i0 i:=λa b d p e=>by rw[e] at hs;contradiction
  exact gZ _ rfl (λfr=>by refine af (gS key) ?_;rfl) λn hW q=>MP (ho.v n hW λv ee da w s1 hk ex hv H=>hi.v (n.next ex H) hk λv2 fO ip w2 s2 mf nL t8 H2=>by
   (apply rW mf t8;intro j t Cb)
   exact Jk n.r.G n.r.F n.r.rm Cb (hv.ext nL) H2 hs λv3 w3 s3 hf Wi H3=>q _ _ _ _ _ hf (ex.ext nL) Wi H3)
theorem rY(n:Now c R cC ω fr hp s)(h:(A7 c.p f vs hp k).H)(hv:Vs ω vs ws)(q:Done c R ω fr k Q):cQ (bc c.C) c.A (.call (.ref f) ⟨ws,[]⟩) (oR Q c.E) s:=by
 erw [nn λzn=>?_,aT n.S λhl aH=>?_,aK aH λvs' hf H=>?_,zn,-zn,-aH];have ex:∀{bb:Om},Agree hp.length ω bb->mh ω bb:=λag=>by unfold mh;rwa[af hl,ag]
 refine LV.run h n.r.G n.r.F n.r.rm hv (aA _) hl (R:=ml c.L c.ns vs'::R) (H.perm pf) (λv hp' bb w s' hk ag jk hw H'=>q v hp' bb w s' hk (ex ag) hw ⟨jk,vs',hf.ext<|ex ag,H'.perm pf.symm⟩) λx hp' bb a s' hk ag jk H'=>n.r.hX x hp' bb a s' hk (n.g.ext<|ex ag) jk ?_;have H1:Sat c.C (yk a x::(ml c.L c.ns vs'::(dR bb bb.ρ hp'++(tups bb.τ++R)))) s':=H'.perm<|pf.symm.cons _;exact(iC H1).drop
theorem yp:∀p∈gX,∀a,p.2≠ .ref a:=by
 have h:gX.all (λp=>match p.2 with |.ref _=>ao |_=>ah)=ah:=rfl;intro p hp a e;have:=a4.mp h p hp;rw[e] at this;contradiction
theorem Nb{c:Fm}{s:aE}{Q:aG->aE->Prop}{es:List Expr}{pos:Pos}{f}{first}(F:KF c.K)(G:Gl c.C c.K)(hf:f∈vQ)(hn:noStar es=ah)(h:rS c.C c.A c.env c.E es (λws s2=>(∃l,Sat c.C l s2)/\cQ (bc c.C) c.A (.call (.ref f) ⟨first++ws,[]⟩) (oR Q c.E) s2) s):
 a6 (bc c.C) c.A (jc pos (.ref f) first (fD pos<|de es c.env) []) Q c.E s:=by
 exact yX (AN F hf) λoc od fd osl OE=>(v5 (ob:=⟨oc,od,.func fd,osl⟩) (fd:=fd)<|kA (jm hn)<|rS.spl hn<|rS.mono h λws s2 h2=>⟨⟨G.X h2.1.choose_spec _ _ OE,rfl⟩,eK h2.2⟩)
theorem Nc(n:Now c R cC ω fr hp s)(hm:AE.contains n'=ah)(h:(Wb c.p.N n' vs hp k).H)(hv:Vs ω vs ws)(q:Done c R ω fr k Q):cQ (bc c.C) c.A (.call (.ref n') ⟨ws,[]⟩) (oR Q c.E) s:=by
 (apply bq h;intro fi ei h)
 (apply Jq h;intro m hN h)
 have Z6:=n.r.F.CA n'<|cY hm
 have mk:vL c.K n' "__init__" fi:=by
  have:=(Iz n.r.F ei).1;rw[show Cy 0="__init__" by rfl] at this;exact this
 erw [nn λzn=>?_,aT n.S λhl aH=>?_,aK aH λyR U9 H2=>?_,zn,-zn,-aH];have rm:=n.r.rm;rw[hN] at rm;refine Gr (ns:=eG n') n.r.G Z6 mk H2 λx s3 H3=>?_
 have hS:SA c R (ω.add x) fr (hp++[AO.inst n'<|(qQ n').map λz=>aq]) s3:=SA.adopt (P:=lO x n' (eG n')<|iz<|eG n') ⟨hl,yR,U9,H3.perm kK.symm⟩ λg hg=>by
  have en:∀l:List Nat,A3 (ω.add x) (l.map λz=>aq) (iz<|l.map OW):=λl=>by
   induction l with
   |nil=>exact .nil
   |cons y l ih=>exact .cons trivial ih
  exact⟨_,en _,hg⟩
 erw [nn λzn=>?_,aT hS λhl3 aH=>?_,-hS,aK aH λvs3 ho3 H4=>?_,zn,-zn,-aH,LV.run h n.r.G n.r.F rm.CN (ω:=ω.add x) (R:=ml c.L c.ns vs3::R) (.cons (wt n.S)<|hv.ext Om.gd) (aA _) hl3 (H4.perm pf) (λv hp' bb w s' hk ag jk hw H'=>?_) λx hp' bb a s' hk ag jk H'=>hk.elim]
 (apply bq (show(aX (isN v) λb=>rP b<|k (.ref hp.length) hp').H from hk);intro b e1 hk)
 (apply jA hk;intro cK hk;subst cK)
 have ex':mh (ω.add x) bb:=by unfold mh;rwa[af hl3,ag]
 exact⟨beq_iff_eq.mp<|Jd e1 hw,q _ hp' bb (.ref x) s' hk (Om.gd.ext ex') (AV.Is.ext ex'<|wt n.S) ⟨jk,vs3,ho3.ext ex',H'.perm pf.symm⟩⟩
theorem vf(hp:o5 o=ah)(xd:(apos.endLine==pos.line)=ah)(hn:noStar es=ah)(hl:es.length<29)(h:a6 (bc C) A (eval o env) (λv s1=>∀pl:qD Bool,aC (bc C) A (k9 v name pl) (λfr s2=>a6 (bc C) A (jc pos fr.1 fr.2 (fD pos<|de es env) []) Q E s2) E s1) E s):
 a6 (bc C) A (eval (.Call (.Attribute o name apos) es [] pos) env) Q E s:=by
 erw [af (arm_eval_Call _ _ _ _ _ _ _)<|af (wj hp) ?_,mC h λv s1 h1=>?_,ou];have Z7:DW (es.length+([]:List xP).length) (fD pos<|de es env) (backToKw pos<|keywordEach [] env)=ah:=CU hn hl;have uV:qfh ah o env apos pos=cg pos:=by unfold qfh;exact if_pos xd
 unfold methodCall;rwa[af Z7,bh<|cL<|mE (h1 _) λfr s2 hc=>?_,aR<|fL uV hc]
section
variable{c:Fm}{R:List bp}{cC:Bs}{ω:Om}{fr:Frs}{hp:List AO}{s:aE}{k:AV->List AO->VC}{Q:aG->aE->Prop}{es:List Expr}{pos:Pos}{nm:bI}{kws:List xP}
theorem kP(h:(kws.isEmpty&&noStar es&&decide (es.length<29))=ah):kws=[]/\noStar es=ah/\es.length<29:=by
 simp only[bG,vz,decide_eq_true_eq] at h;exact(gp h.1.1 h.1.2 h.2)
theorem Bd{P:Prop}(h:(kws.isEmpty&&noStar es&&decide (es.length<29))=ah)(q:kws=[]->noStar es=ah->es.length<29->P):P:=q (kP h).1 (kP h).2.1 (kP h).2.2
theorem pS{fv}{Q'}{kl}(hn:noStar es=ah)(h:∀e∈es,iL c e)(n:Now c R cC ω fr hp s)(hW:((evs c fr es).l hp kl).H)(q:∀vs hp' bb ws s',Now c R cC bb fr hp' s'->(kl vs hp').H->mh ω bb->Vs bb vs ws->Q' ⟨ws,[]⟩ s'):
 a6 (bc c.C) c.A (xQ fv ah (fD pos<|de es c.env) []) Q' c.E s:=kA (jm hn)<|rS.spl hn<|M5 h n hW λvs ee da ws s2 hk ex hv H=>q vs ee da ws s2 (n.next ex H) hk ex hv
theorem zk{f}{first}{kl}(hf:f∈vQ)(hn:noStar es=ah)(h:∀e∈es,iL c e)(n:Now c R cC ω fr hp s)(hW:((evs c fr es).l hp kl).H)(q:∀vs hp' bb ws s',Now c R cC bb fr hp' s'->(kl vs hp').H->mh ω bb->Vs bb vs ws->cQ (bc c.C) c.A (.call (.ref f) ⟨first++ws,[]⟩) (oR Q c.E) s'):a6 (bc c.C) c.A (jc pos (.ref f) first (fD pos<|de es c.env) []) Q c.E s:=
 Nb n.r.F n.r.G hf hn (M5 h n hW λvs ee da ws s2 hk ex hv H=>⟨⟨_,H.sat.choose_spec.1⟩,q vs ee da ws s2 (n.next ex H) hk ex hv⟩)
theorem GP(h:∀e∈es,iL c e):iL c (.Call (.Name nm p) es kws pos):=
 o8 (show tr c.ns c.gs (.Call (.Name nm p) es kws pos)=_ from rfl) λhk key=>by
  (apply Bd hk;intro cK hn hl;subst cK)
  unfold IW at key;refine o8 key λhg key=>?_;simp only[bG] at hg;have hg:=hg.2
  cases e1:oQ.lookup nm with
  |some a=>
   rw[e1] at key
   have nam:∀{R:List bp} {cC:Bs} {ω:Om} {fr:Frs} {hp:List AO} {s:aE} {Q:aG->aE->Prop},Now c R cC ω fr hp s->(∀s1,Now c R cC ω fr hp s1->a6 (bc c.C) c.A (jc pos (.ref a) [] (fD pos<|de es c.env) []) Q c.E s1)->a6 (bc c.C) c.A (eval (.Call (.Name nm p) es [] pos) c.env) Q c.E s:=λ{R cC ω fr hp s Q} n q=>by
    rwa[aK n.S.sat λl H back=>(af (i6 _ _ _ _ _ _) ?_),bh<|mX (qual:=c.qual) (L:=c.L) (f:=c.f) (cdv:=c.cdv) (cl:=c.cl) n.r.G n.r.sc (cY hg) (n.r.F.vO _<|gi e1) _ _ _ H λv s1 hv H1=>?_,!hv,q s1<|n.next .rfl<|back _ H1]
   cases e2:vQ.contains a with
   |true=>
    have key:tr c.ns c.gs (.Call (.Name nm p) es [] pos)= .call a (Ak c.ns c.gs es):=by erw [af key,(?_:IV (vQ.contains a) _ _=_),af e2];rfl
    exact gZ _ rfl (λfr=>by erw [af (gS key)];rfl) λn hW q=>nam n λs1 n1=>zk (first:=[]) (cY e2) hn h n1 hW λvs ee da ws s2 n2 hk ex hv=>rY n2 hk hv<|q.ext ex
   |false=>
    have key:tr c.ns c.gs (.Call (.Name nm p) es [] pos)=IU (AE.contains a) (.cls a<|Ak c.ns c.gs es):=by erw [af key,(?_:IV (vQ.contains a) _ _=_),af e2];rfl
    exact o8 key λhm key=>gZ _ rfl (λfr=>by erw [af (gS key)];rfl) λn hW q=>nam n λs1 n1=>qU (iK hn)<|pS hn h n1 hW λvs ee da ws s2 n2 hk ex hv=>⟨Ui (xD<|n.r.F.CA a<|cY hm)<|n.r.G.X n2.S.sat.choose_spec.1,eK<|Nc n2 hm hk hv<|q.ext ex⟩
  |none=>
   rw[e1] at key
   cases e2:o6 nm with
   |none=>exact jv (by erw [af key,(?_:nj (o6 nm) _ _=_),af e2];rfl)
   |some m=>
    have key:tr c.ns c.gs (.Call (.Name nm p) es [] pos)= .blt m (Ak c.ns c.gs es):=by erw [af key,(?_:nj (o6 nm) _ _=_),af e2];rfl
    rwa[gZ _ rfl (λfr=>by erw [af (gS key)];rfl) λn hW q=>?_,aK n.S.sat λl H back=>(af (i6 _ _ _ _ _ _) ?_),bh<|vd (qual:=c.qual) (L:=c.L) (f:=c.f) (cdv:=c.cdv) (cl:=c.cl) n.r.G n.r.F n.r.sc (cY hg) (kO e2) _ _ _ H λv s1 hv H1=>?_,!hv,jF (first:=[]) (yp _<|kO e2) (iK hn)<|pS hn h (n.next .rfl<|back _ H1) hW λvs ee da ws s2 n2 hk ex hv=>M0 n2.r.G n2.r.F n2.r.rm.handled hk hv n2.S<|q.ext ex]
theorem Nd(hq:Q' (.builtin "int.bit_length",[.int i t]) s):aC (bc C) A (k9 (.int i t) "bit_length" pl) Q' E s:=by
 with_reducible exact j3 (T:="int") (id:="int.bit_length") (nF s _ _) PySem.F.plainAttrs_int PySem.F.slot_int_bit_length PySem.F.type_int_bit_length (λa e=>by contradiction) hq
theorem Be{ad}(e:Ca o=ae m)(H:Sat C (o.P ω ad::l) s):∃vs l',Sat C (lO ad m (eG m) vs::l') s:=by
 cases o with
 |inst k vs=>
  cases e
  (apply Sat.Ax H;intro vs' H1)
  (apply Sat.sW H1;intro ho H2)
  exact(Cr _ _ H2)
 |own k P=>
  refine nn λzn=>?_;cases e
  obtain⟨f,g,⟨g1,g2,rfl,⟨-,vs,g3,g4,rfl,hi⟩,hg⟩,t⟩:=H;rwa[zn,-zn,⟨vs,[λx=>x=g4++g2],f,_,⟨g3,g4++g2,ax _ _ _,hi,g4++g2,[],(bD _).symm,rfl,rfl⟩,t⟩]
 |_=>contradiction
theorem GQ{i}{m}{ob}{ad}(ec:Ca ob=ae m)(hn:noStar es=ah)(h:∀e∈es,iL c e)(n1:Now c R cC ω fr hp s)(eo:hp[i]? =ae ob)(ea:ω.ρ[i]? =ae ad)(hk:(aX (mt m<|xM nm) λf=>(evs c fr es).l hp λvs hp=>A7 c.p f (.ref i::vs) hp k).H)(q:Done c R ω fr k Q)(pl:qD Bool):
 aC (bc c.C) c.A (k9 (.ref ad) nm pl) (λfr s2=>a6 (bc c.C) c.A (jc pos fr.1 fr.2 (fD pos<|de es c.env) []) Q c.E s2) c.E s:=by
 (apply bq hk;intro f ef hk)
 erw [nn λzn=>?_,lE (Iz n1.r.F ef) λmk Z8 aH=>?_,c4 aH λd ed=>?_,-aH,aK (Cz ef) λy hy Z9=>?_];rw[<-ug rfl (AG _ hy _ Z9).1] at mk Z8;obtain⟨Eu,dU,l0,H0,-⟩:=n1.S.obj eo;rw[ea] at dU;cases dU
 rwa[vF (Be ec H0) λvs' l Hi=>?_,zn,-zn,AA n1.r.G mk (.head _) Z8 Hi<|zk (first:=[.ref ad]) (bB _ (AG _ hy _ Z9).2) hn h n1 hk λvs fO ip ws s2 n2 mf nL t8=>rY n2 mf (.cons (gY.mpr<|bV ad (nL.at ea) rfl) t8)<|q.ext nL]
theorem Jx{i}{ob}{ad}(hn:noStar es=ah)(h:∀e∈es,iL c e)(n1:Now c R cC ω fr hp s)(eo:hp[i]? =ae ob)(ea:ω.ρ[i]? =ae ad)(hk:(rP (I4 ob<|xM nm)<|(evs c fr es).l hp λvs hp=>aX hp[i]? λRx=>rP (b0 (MA Rx)<|MA ob)<|bmW Rx (xM nm) i vs hp k).H)(q:Done c R ω fr k Q)(pl:qD Bool):
 aC (bc c.C) c.A (k9 (.ref ad) nm pl) (λfr s2=>a6 (bc c.C) c.A (jc pos fr.1 fr.2 (fD pos<|de es c.env) []) Q c.E s2) c.E s:=by
 (apply jA hk;intro hb hk)
 refine RL hb eo ea n1.S pl (jF (λz e=>by contradiction) (iK hn)<|pS hn h n1 hk λvs fO ip ws s2 n2 mf nL t8=>?_)
 (apply bq mf;intro Rx MV Cb)
 (apply jA Cb;intro he Cb)
 have he:=bK he;have e1:Bb ob (xM nm)=Bb Rx (xM nm):=congrArg (λk=>Ey k<|xM nm) he.symm;exact af e1<|RM ((congrArg (λk=>I3 k<|xM nm) he).trans hb) Cb MV (nL.at ea) t8 n2.S<|q.ext nL
theorem Jy(ho:iL c o)(h:∀e∈es,iL c e):iL c (.Call (.Attribute o nm apos) es kws pos):=
 o8 (show tr c.ns c.gs (.Call (.Attribute o nm apos) es kws pos)=_ from rfl) λhk key=>by
  (apply CV hk;intro h1 h2)
  (apply CV h2;intro hp xd)
  (apply Bd h1;intro cK hn hl;subst cK)
  have key:tr c.ns c.gs (.Call (.Attribute o nm apos) es [] pos)= .meth (tr c.ns c.gs o) (xM nm) (Ak c.ns c.gs es):=by
   erw [af key,(?_:IX (IU (o5 o) _) _ _=_),af hp];rfl
  erw [gZ _ rfl (λfr=>by erw [af (gS key)];rfl) λn hW q=>?_,vf hp xd hn hl<|ho.v n hW λv ee da w s1 hk ex hv H pl=>?_];have n1:=n.next ex H
  cases v with
  |ref i=>
   (apply eM hv;intro ad ea)
   (apply bq hk;intro ob eo hk)
   cases ec:Ca ob with
   |some m=>rw[ec] at hk;exact GQ ec hn h n1 eo ea hk (q.ext ex) pl
   |none=>rw[ec] at hk;exact Jx hn h n1 eo ea hk (q.ext ex) pl
  |int i=>
   (apply cx hv;intro t)
   (apply jA hk;intro hy hk)
   obtain rfl:=(ug (bK hy) CY.2.2.2.2.2.2.1).trans CY.2.2.1
   exact Nd (jF (λz e=>by contradiction) (iK hn) (pS hn h n1 hk λvs fO ip ws s2 n2 mf nL t8=>by
    (apply rQ mf;intro cK Cb;subst cK)
    cases t8
    exact a6.of<|call_int_bit_length<|q _ _ _ _ _ Cb (ex.ext nL) (dz.mpr ⟨_,rfl⟩) n2.S.toks))
  |raw x=>
   cases x with
   |ref m=>
    apply rV hv
    (apply bq hk;intro f ef hk)
    erw [nn λzn=>?_,aK (Ml ef) λl' hc hy=>?_];have ca:=n.r.F.QO _ hc _ hy;rw[<-ug rfl (Iv _ hc _ hy).1] at ca;rwa[aK H.sat λl H1 back=>?_,zn,-zn,uf n.r.G ca H1 λs' H'=>zk (first:=[]) (bB _ (Iv _ hc _ hy).2) hn h (n1.next .rfl<|back _ H') hk λvs fO ip ws s2 n2 mf nL t8=>rY n2 mf t8<|q.ext<|ex.ext nL]
   |_=>exact hk.elim
  |_=>exact hk.elim
end
theorem Jz(hf:∀o x p,f= .Attribute o x p->iL c o)(h:∀e∈es,iL c e):iL c (.Call f es kws pos):=by
 cases e1:eS f with
 |some r=>rwa[af (gG e1),GP h]
 |none=>
  cases e2:mU f with
  |some r=>have:=mV e2;rwa[af this,Jy (hf _ _ _ this) h]
  |none=>exact jv (by refine(?_:IY _ _ _ _ _ _ _ _=_);rw[IY,e1];dsimp only;(first |exact e2 |exact congrArg _ e2 |exact af e2 rfl))
def Nf(c:Fm)(e:Expr):Prop:=iL c e/\(∀o x p,e= .Attribute o x p->iL c o)/\∀b p,e= .Slice aq (ae b) aq p->iL c b
theorem Nf.of(h:iL c e)(h1:mU e=aq:=by rfl)(h2:mH e=ao:=by rfl):Nf c e:=⟨h,(λo x p q=>by rw[q] at h1;contradiction),(λb p q=>by rw[q] at h2;contradiction)⟩
theorem Nf.bad(h:tr c.ns c.gs e= .bad:=by rfl)(h1:mU e=aq:=by rfl)(h2:mH e=ao:=by rfl):Nf c e:=.of (jv h) h1 h2
theorem Nf.attr(h:iL c o):Nf c (.Attribute o x p):=⟨Js h,(λz z z q=>by cases q;exact h),(λz z q=>by contradiction)⟩
theorem Nf.slice(h:∀e,b=ae e->iL c e):Nf c (.Slice a b d p):=⟨GO,(λz z z q=>by contradiction),(λb' z q=>by cases q;exact h _ rfl)⟩
mutual
theorem C0:∀e:Expr,Nf c e
 |.Constant c _ _=>.of HF
 |.Name x _=>.of Jn
 |.Attribute o nm _=>.attr (C0 o).1
 |.BinOp a op b _=>.of<|M4 (C0 a).1 (C0 b).1
 |.UnaryOp op a _=>.of<|RQ (C0 a).1
 |.Compare a ops bs _=>.of<|Bc (C0 a).1<|GR bs
 |.BoolOp op vs _=>.of<|Ju<|GR vs
 |.IfExp t a b _=>.of<|M9 (C0 t).1 (C0 a).1 (C0 b).1
 |.Subscript o i _=>.of<|Jw (C0 o).1 (C0 i).1 (C0 i).2.2
 |.Tuple xs _ _=>.of<|M6<|GR xs
 |.List xs _=>.of<|M7<|GR xs
 |.Dict ks vs _=>.of Jv
 |.Slice a b c _=>.slice<|qbz b
 |.Call f xs kws p=>.of<|Jz (C0 f).2.1<|GR xs
 |.Lambda .. |.ListComp .. =>.of<|M1 rfl rfl rfl
 |.NamedExpr .. |.Set .. |.SetComp .. |.DictComp .. |.GeneratorExp .. |.Await .. |.Yield .. |.YieldFrom .. |.FormattedValue .. |.JoinedStr .. |.Starred .. =>.bad
theorem qbz:∀(b:Option Expr) (e:Expr),b=ae e->iL c e
 |none,_,h=>nomatch h
 |some e,e',h=>eV h▸(C0 e).1
theorem GR:∀es:List Expr,∀e∈es,iL c e
 |[],e,h=>(LX h).elim
 |a::es,e,h=>(aV.mp h).elim (λq=>q▸(C0 a).1) λq=>GR es e q
end
theorem yS(e:Expr):iL c e:=(C0 e).1
section
variable{C:Cx}{A:c5}{s:aE}{env:DO}{i:Expr}{pos:Pos}{E:aG->aE->Prop}{Q:La->aE->Prop}{n:Nat}
theorem Wj(h:a6 (bc C) A (lg t env<|eval t env) (λb s'=>if b then a6 (bc C) A (oB body env) Q E s' else a6 (bc C) A (oB orelse env) Q E s') E s):a6 (bc C) A (exec (.If t body orelse pos) env) Q E s:=by
 erw [af (exec_If _ _ _ _ _),ou<|mC h λb s' h'=>?_];cases b<;>(trivial)
theorem JA{t:Expr}{body}(J:Nat->aE->Prop)(k:Nat)(h0:J k s)(turn:∀n s,J n s->a6 (bc C) A (lg t env<|eval t env) (λb s=>
 if b then a6 (bc C) A (oB body env) (λf s'=>match f with
  |.next |.cont=>∃m,m<n/\J m s'
  |.brk=>Q .next s'
  |.ret v=>Q (.ret v) s') E s
 else Q .next s) E s) (hE:ZM (bc C) A env E):
 a6 (bc C) A (exec (.While t body [] pos) env) Q E s:=by
 erw [af (exec_While _ _ _ _ _),ou<|vV ?_,qR rfl rfl J ?_ k h0];rintro n s' hJ;erw [(?_:a6 _ _ ((whileTurn t body [] env).onRaise λx=>do qu x env;rD x) _ _ s'),yd<|vW hE ?_];simp only[whileTurn];refine mC (turn n s' hJ) λb s1 h1=>?_
 cases b with
 |false=>
  simp only[bE,if_false] at h1 |-;exact pC<|aY h1
 |true=>
  simp only[if_true] at h1 |-;refine mC h1 λf s3 h3=>?_
  cases f with
  |next=>rwa[aK h3 λm q j=>?_,-h3,aY<|.inl ⟨rfl,m,q,j⟩]
  |cont=>rwa[aK h3 λm q j=>?_,-h3,aY<|.inl ⟨rfl,m,q,j⟩]
  |brk=>exact aY h3
  |ret v=>exact aY h3
def C1(C:Cx)(A:c5)(target:Expr)(n:Nat)(I:Nat->aE->Prop)(turn:Nat->aG->aE->Prop)(fin:aE->Prop)(it:aG)(s:aE):Prop:=
 I 0 s/\(∀i s (Q:Option aG->aE->Prop) E,i<n->I i s->(∀v s',(∀(Q:Unit->aE->Prop) E,Q () s'->aC (bc C) A (gR target it v) Q E s')->turn i v s'->Q (ae v) s')->aC (bc C) A (Ue it) Q E s)/\
   ∀s (Q:Option aG->aE->Prop) E,I n s->(∀s',fin s'->Q aq s')->aC (bc C) A (Ue it) Q E s
theorem JB{target}{iter}{body}(h:a6 (bc C) A (eval iter env) (λx s1=>aC (bc C) A (z0 x) (λit s2=>∃(n:Nat) (I:Nat->aE->Prop) (turn:Nat->aG->aE->Prop),C1 C A target n I turn (λs=>Q .next s) it s2/\
 ∀i v s,i<n->turn i v s->aC (bc C) A (jq target env v) (λz s=>a6 (bc C) A (oB body env) (λf s'=>match f with
 |.next |.cont=>I (i+1) s'
 |.brk=>Q .next s'
 |.ret v=>Q (.ret v) s') E s) E s) E s1) E s) (hs:∀x,oH iter env x=cg x) (hE:ZM (bc C) A env E):
 a6 (bc C) A (exec (.For target iter body [] pos) env) Q E s:=by
 erw [af (exec_For _ _ _ _ _),ou<|mC h λxv s1 h1=>?_,aR<|fL (hs xv)<|ou<|bh<|cL<|mE h1 λit s2 h2=>?_,nn λzn=>?_,Ig h2 λn I turn aH ht=>?_,-h2,lE aH λh0 item fin=>?_,zn,-zn,-aH,vV,qR rfl rfl (λk s'=>∃i,k=n+1-i/\i<=n/\I i s') ?_ (n+1)<|oK 0 rfl (cM _) h0];rintro k s' ⟨i,rfl,hi,hJ⟩;erw [(?_:a6 _ _ ((forTurn target it body [] env).onRaise λx=>do qu x env;rD x) _ _ s'),yd<|vW hE ?_];simp only[forTurn];refine ou<|bh<|qfi ?_;by_cases ju:i<n
 . refine item i _ _ _ ju hJ λv s1 hg hv=>?_
   dsimp only;erw [bh<|hg _ _ ?_,bh<|mE (ht i v s1 ju hv) λz s2 h2=>mC h2 λf s3 h3=>?_]
   cases f with
   |next=>exact aY (.inl ⟨rfl,n+1-(i+1),by exact‹a+1<=b+c->d+(c+1)=a+1->d<b› (oM _ _) (ay<|‹a<b->a+1<=b+1› ju),i+1,rfl,ju,h3⟩)
   |cont=>exact aY (.inl ⟨rfl,n+1-(i+1),by exact‹a+1<=b+c->d+(c+1)=a+1->d<b› (oM _ _) (ay<|‹a<b->a+1<=b+1› ju),i+1,rfl,ju,h3⟩)
   |brk=>exact aY h3
   |ret v=>exact aY h3
 . have e:i=n:=xT (hi) ((a8 ju))
   erw [!e,fin _ _ _ hJ λs1 H1=>?_];dsimp only;exact aY<|.inr ⟨⟨rfl,rfl⟩,cQ.of<|codeAny_block<|wpAny_execs_nil H1⟩
theorem RU(h:aC (bc C) A (loadName env x) (λa s1=>a6 (bc C) A (eval e env) (λb s2=>aC (bc C) A (mP op a b) (λv s3=>aC (bc C) A (gy env x v) (λz=>Q .next) E s3) E s2) E s1) E s):
 a6 (bc C) A (exec (.AugAssign (.Name x p) op e pos) env) Q E s:=by
 rwa[af (arm_exec_AugAssign _ _ _ _ _ _),ou<|bh<|mE h λa s1 h1=>IJ h1 λb s2 h2=>ou<|aR<|iJ<|a6.of<|mE h2 λv s3 h3=>?_,ou<|bh<|mE (tS h3) λz z q=>aY q]
theorem RV(h:a6 (bc C) A (eval o env) (λov s0=>aC (bc C) A (rn ov x ah) (λa s1=>a6 (bc C) A (eval e env) (λb s2=>aC (bc C) A (mP op a b) (λv s3=>aC (bc C) A (K7 ov x v) (λz=>Q .next) E s3) E s2) E s1) E s0) E s):
 a6 (bc C) A (exec (.AugAssign (.Attribute o x p) op e pos) env) Q E s:=by
 rwa[af (arm_exec_AugAssign_2 _ _ _ _ _ _ _),ou<|mC h λov s0 h0=>Qu<|ou<|bh<|mE h0 λa s1 h1=>IJ h1 λb s2 h2=>ou<|iJ<|a6.of<|mE h2 λv s3 h3=>?_,ou<|bh<|cL<|mE h3 λz z q=>bh<|Hw<|aY q]
theorem kQ(h:jQ e=ah)(t:Option Expr)(l:Nat):HP e t l env=cg ao:=by
 cases e<;>first |rfl |contradiction
theorem rZ(h:jQ e=ah)(l:Nat):qfj ts e l env=cg ao:=by
 unfold qfj
 split
 . exact kQ h _ _
 . rfl
theorem kR(hn:jQ e=ah)(h:a6 (bc C) A (eval e env) (λv s1=>a6 (bc C) A (eval o env) (λov s2=>aC (bc C) A (K7 ov x v) (λz=>Q .next) E s2) E s1) E s):a6 (bc C) A (exec (.Assign [.Attribute o x p] e pos) env) Q E s:=by
 have e1:exec (.Assign [.Attribute o x p] e pos) env=(do
  mL pos
  if<-HP e (ae<|.Attribute o x p) pos.line env then
   evalThenUse e env (jq (.Attribute o x p) env)
   return .next
  let v<-eval e env
  jq (.Attribute o x p) env v
  cg .next):=rfl
 rwa[af e1<|af (kQ hn _ _) ?_,ou<|pC<|mC h λv s' h'=>?_,af (arm_assign_Attribute _ _ _ _ _),aR<|aR<|bJ<|Pb h' λov s2 h2=>ou<|bh<|cL<|mE h2 λz z q=>?_,a6.of<|Hw<|aY q]
theorem C2(hn:jQ e=ah)(hs:i0 i)(h:a6 (bc C) A (eval e env) (λv s1=>a6 (bc C) A (eval o env) (λov s2=>a6 (bc C) A (eval i env) (λiv s3=>a6 (bc C) A (oA ov iv v) (λz=>Q .next) E s3) E s2) E s1) E s):a6 (bc C) A (exec (.Assign [.Subscript o i p] e pos) env) Q E s:=by
 rwa[af (exec_Assign_Subscript o i p e pos<|kQ hn _ _),ou<|mC h λv s' h'=>?_,af (arm_assign_Subscript _ _ _ _ _),aR<|aR<|bJ<|Pb h' λov s2 h2=>?_,IJ h2 λiv s3 h3=>ou<|IJ h3 λz z q=>?_,a6.of<|Hw<|aY q]
theorem RW(hn:jQ e=ah)(ht:Cu e=ao)(h:a6 (bc C) A (eval e env) (λv s1=>aC (bc C) A (jq (.Tuple ts kk p) env v) (λz=>Q .next) E s1) E s):a6 (bc C) A (exec (.Assign [.Tuple ts kk p] e pos) env) Q E s:=by
 erw [af (qaT _ _ _ _)<|af (rZ hn _) ?_,ou<|pC<|mC h λv s' h'=>?_];have e0:pI [.Tuple ts kk p] e env=cg aq:=by cases e<;>first |rfl |contradiction
 rwa[aR<|fL e0 ?_,(?_:a6 _ _ (assignAll v [jq (.Tuple ts kk p) env]>>=λz=>cg LY) _ _ s'),bh<|mE h' λz z q=>aY q]
end
section
variable{a b:Expr}{p p' p1 p2:Pos}{x1 x2:bI}{kk kk':Nat}{scope:kE}{ns gs:List bI}{qual:bI}{L f:br}{cdv:aG}
noncomputable def Ad(x1:bI)(p1:Pos)(x2:bI)(p2:Pos)(a b:Expr):Option Bool:=
 if(p1.line==p2.line)&& !(x1==x2)&&noStar [a,b] then(if[a,b].all (lD 8) then ae ao else if[a,b].all (j4 8) then aq else ae ah) else aq
noncomputable def rz:Expr->Bool
 |.Starred .. =>ah
 |_=>ao
noncomputable def Ng(c:Bool)(x:bI)(l:List bI):List bI:=match(if c=ah then ae x else aq) with
 |none=>l
 |some y=>y::l
def JC(fn:Bool)(l:List bI)(a b:Expr):qD (Option<|List bI):=
 if fn=ah then cg aq else if[a,b].any rz=ah then cg aq else
  if(l.length !=2||l.eraseDups.length !=l.length)=ah then cg aq else
  if[a,b].all (lD 8)=ah then cg aq else if[a,b].all (j4 8)=ah then jx "assign.tuple-of-constant-expressions:order-of-the-stores" else
  cg (ae l)
theorem EA(env:DO):pI [.Tuple [.Name x1 p1,.Name x2 p2] kk p] (.Tuple [a,b] kk' p') env=
 JC (env.blockKind != .function) (Ng (env.kindOf x1==ae .local&&p1.line==p1.line) x1<|Ng (env.kindOf x2==ae .local&&p2.line==p1.line) x2 []) a b:=by kernel_rfl
theorem JD(hl:(l.length !=2)=ah):JC ao l a b=cg aq:=by
 unfold JC;erw [af hl];cases[a,b].any rz<;>rfl
theorem Nh{k1}(h:(k1&&k2)=ao):((Ng k1 x1<|Ng k2 x2 []).length !=2)=ah:=by
 cases k1<;>cases k2<;>first |rfl |contradiction
theorem EB(a:Expr):rz a= !noStar [a]:=by cases a<;>rfl
theorem Ni(hn:noStar [a,b]=ah):[a,b].any rz=ao:=by
 rw[lQ] at hn;erw [aT (aQ.mp hn) λh1 h2=>?_,(?_:(rz a||(rz b||ao))=ao),af (EB _)<|af (EB _)<|af h1<|af h2 ?_];rfl
theorem Wl(h:(x1==x2)=ao):([x1,x2].eraseDups).length=2:=by
 have:(x2==x1)=ao:=beq_eq_false_iff_ne.mpr λe=>beq_eq_false_iff_ne.mp h e.symm;erw [af List.eraseDups_cons,(?_:(x1::List.eraseDups (match !(x2==x1) with |true=>[x2] |false=>[])).length=2),af this];rfl
theorem C3(sc:mr scope ns gs)(h1:x1∈ns)(h2:x2∈ns){c}(h:Ad x1 p1 x2 p2 a b=ae c):pI [.Tuple [.Name x1 p1,.Name x2 p2] kk p] (.Tuple [a,b] kk' p') (eo qual scope L f cdv cl)=cg (if c then ae [x1,x2] else aq):=by
 unfold Ad at h
 cases hc:((p1.line==p2.line)&& !(x1==x2)&&noStar [a,b]) with
 |false=>rw[hc] at h;contradiction
 |true=>
  rw[hc] at h;replace h:(if[a,b].all (lD 8) then ae ao else if[a,b].all (j4 8) then aq else ae ah)=ae c:=h;erw [nn λzn=>?_,aT (aQ.mp hc) λh3 hn=>?_,aT (aQ.mp h3) λhl mO=>?_,zn,-zn];have k1:((eo qual scope L f cdv cl).kindOf x1==ae .local&&p1.line==p1.line)=ah:=by refine af (show(eo qual scope L f cdv cl).kindOf x1=ae .local from sc.locals _ h1)<|af (beq_self_eq_true<|ae NameKind.local)<|af (beq_self_eq_true p1.line) ?_;rfl
  have k2:((eo qual scope L f cdv cl).kindOf x2==ae .local&&p2.line==p1.line)=ah:=by refine af (show(eo qual scope L f cdv cl).kindOf x2=ae .local from sc.locals _ h2)<|af (beq_self_eq_true<|ae NameKind.local)<|af (eq_of_beq hl)<|af (beq_self_eq_true p2.line) ?_;rfl
  have kb:((eo qual scope L f cdv cl).blockKind != .function)=ao:=by erw [(?_:((if scope.kind.isAnnotationScope then B7 else scope.kind)!=_)=_),af sc.kind];rfl
  refine af (EA _)<|af k1<|af k2<|af kb ?_
  refine(?_:(if[a,b].any rz=ah then cg aq else if(ao||[x1,x2].eraseDups.length !=2)=ah then cg aq else if[a,b].all (lD 8)=ah then cg aq else if[a,b].all (j4 8)=ah then jx "assign.tuple-of-constant-expressions:order-of-the-stores" else
   cg (ae [x1,x2]))=_)
  refine af (Ni hn)<|af (Wl<|Eq.symm<|(λ{x y}=>Bool.not_inj_iff.mp)<|id<|Eq.symm mO) ?_;show(if[a,b].all (lD 8)=ah then cg aq else if[a,b].all (j4 8)=ah then _ else _)=_
  cases e1:[a,b].all (lD 8) with
  |true=>rw[e1] at h;(injection h with h;subst h);rfl
  |false=>
   rw[e1] at h
   cases e2:[a,b].all (j4 8) with
   |true=>rw[e2] at h;contradiction
   |false=>rw[e2] at h;(injection h with h;subst h);rfl
end
set_option genCtorIdx false in
inductive TT |loc(j:Nat) |fb(x:Str)
set_option genCtorIdx false in
inductive Tg |one(k:TT) |many(ks:List TT)
inductive IS
 |nil |cons (a r:IS) |asg (t:Tg) (e:IE) |sat (o:IE) (y:Nat) (e:IE) |RX (o i e:IE) |aug (j:Nat) (op:Operator) (e:IE) |o9 (o:IE) (y:Nat) (op:Operator) (e:IE)
 |expr (e:IE) |ret (e:IE) |RY |ite (t:IE) (a b:IS) |wh (t:IE) (b:IS) |forR (t:Tg) (es:IE) (b:IS) |forL (t:Tg) (e:IE) (b:IS) |brk |cnt |pass |raise (c:Nat) (es:IE) |bad
inductive Fl |next |brk |cnt |ret(v:AV)
noncomputable def tF(ns:List bI)(x:bI):TT:=match ns.contains x with |true=>.loc (ns.idxOf x) |false=>.fb x
noncomputable def Wm(ns:List bI)(e:Expr):Option TT:=(eS e).map λr=>tF ns r.1
noncomputable def kU(ns:List bI):List Expr->Option (List TT)
 |[]=>ae []
 |t::ts=>(Wm ns t).bind λj=>(kU ns ts).map (j:: ·)
noncomputable def Bf(b:Bool)(e:IS):IS:=match b with |true=>e |false=>.bad
noncomputable def Wo(b:Bool)(e e':IS):IS:=match b with |true=>e |false=>e'
noncomputable def wx{α:Type}(t:Option α)(k:α->IS):IS:=match t with |some t=>k t |none=>.bad
noncomputable def r4{α:Type}:List α->Bool
 |[]=>ah
 |_=>ao
noncomputable def zl{α:Type}(d:α)(l:List Expr)(k:Expr->Expr->α):α:=match l with |[a,b]=>k a b |_=>d
noncomputable def wz{α:Type}(d:α)(e:Expr)(k:bI->Pos->α):α:=match eS e with |some r=>k r.1 r.2 |none=>d
noncomputable def zm{α:Type}(d:α)(e:Expr)(k:List Expr->α):α:=match qN e with |some r=>k r.1 |none=>d
noncomputable def JE(ns:List bI)(ts:List Expr)(e:Expr):Bool:=zl ao ts λt1 t2=>wz ao t1 λx1 p1=>wz ao t2 λx2 p2=>zm ao e λl=>zl ao l λa b=>noStar [a,b]&&(!(ns.contains x1&&ns.contains x2)||(Ad x1 p1 x2 p2 a b).isSome)
noncomputable def xe{α:Type}(o:Option α)(k:α->IS)(e:IS):IS:=match o with |some x=>k x |none=>e
def Wq(ns gs:List bI)(t e:Expr):IS:=
 xe (eS t) (λr=>Bf (jQ e)<|.asg (.one<|tF ns r.1)<|tr ns gs e) <|
 xe (mU t) (λr=>Bf (jQ e&&o5 r.1)<|.sat (tr ns gs r.1) (xA r.2.1)<|tr ns gs e) <|
 xe (OS t) (λr=>Bf (jQ e&& !mH r.2.1)<|.RX (tr ns gs r.1) (tr ns gs r.2.1)<|tr ns gs e) <|
 xe (qN t) (λr=>Bf (match Cu e with |true=>JE ns r.1 e |false=>jQ e)<|wx (kU ns r.1) λjs=>.asg (.many js)<|tr ns gs e) .bad
def Wr(ns gs:List bI)(t:Expr)(op:qz)(e:Expr):IS:=
 xe (eS t) (λr=>Bf (ns.contains r.1)<|.aug (ns.idxOf r.1) op<|tr ns gs e) <|
 xe (mU t) (λr=>Bf (o5 r.1)<|.o9 (tr ns gs r.1) (xA r.2.1) op<|tr ns gs e) .bad
noncomputable def vg(ns gs:List bI)(x:bI):Bool:= !(ns.contains x)&&gs.contains x&&(o6 x==ae 2)
noncomputable def LN(ns:List bI)(t:Expr):Option Tg:=match eS t with
 |some r=>ae<|.one<|tF ns r.1
 |none=>(qN t).bind λr=>(kU ns r.1).map .many
noncomputable def vh(e:Expr):Option (bI×List Expr×List xP):=(qO e).bind λr=>(eS r.1).map λq=>(q.1,r.2.1,r.2.2.1)
def JF(ns gs:List bI)(t:Tg)(e:Expr)(es:List Expr->IE)(b:IS):IS:=match vh e with
 |some (x,l,kws)=>Wo (vg ns gs x) (Bf (kws.isEmpty&&noStar l&&decide (l.length<29))<|.forR t (es l) b)<|.forL t (tr ns gs e) b
 |none=>.forL t (tr ns gs e) b
def FY(ns gs:List bI)(e c:Option Expr):IS:=match e,c with
 |some e,aq=>wx (vh e) λr=>wx (oQ.lookup r.1) λc=>Bf (gs.contains r.1&& !(ns.contains r.1)&&(r.2.2.isEmpty&&noStar r.2.1&&decide (r.2.1.length<29)))<|.raise c<|Ak ns gs r.2.1
 |_,_=>.bad
def Ws(ns gs:List bI)(e:Option Expr):IS:=match e with
 |some e=>.ret<|tr ns gs e
 |none=>.RY
noncomputable def Wt(l:List Expr)(k:Expr->IS):IS:=match l with |[t]=>k t |_=>.bad
mutual
def RZ(ns gs:List bI):gK->IS
 |.Assign ts e _=>Wt ts λt=>Wq ns gs t e
 |.AugAssign t op e _=>Wr ns gs t op e
 |.Expr e _=>Bf (jQ e)<|.expr<|tr ns gs e
 |.Return e _=>Ws ns gs e
 |.If t a b _=>.ite (tr ns gs t) (uh ns gs a)<|uh ns gs b
 |.While t b o _=>Bf (r4 o)<|.wh (tr ns gs t)<|uh ns gs b
 |.For t e b o _=>Bf (r4 o&& !vH e)<|wx (LN ns t) λt=>JF ns gs t e (Ak ns gs)<|uh ns gs b
 |.Break _=>.brk
 |.Continue _=>.cnt
 |.Pass _=>.pass
 |.Raise e c _=>FY ns gs e c
 |_=>.bad
def uh(ns gs:List bI):List gK->IS
 |[]=>.nil
 |a::r=>.cons (RZ ns gs a)<|uh ns gs r
end
noncomputable def Pn(o:AO)(k:VC):VC:=match o with |.fb _=>k |_=>.ff
theorem yq(h:(Pn o k).H):(∃v,o= .fb v)/\k.H:=by cases o<;>first |exact⟨⟨_,rfl⟩,h⟩ |exact cq h
noncomputable def JG(p:Pm)(t:TT)(v:AV)(fr:Frs)(hp:List AO)(k:Frs->List AO->VC):VC:=match t with
 |.loc j=>aX fr[j]? λz=>k (fr.set j<|ae v) hp
 |.fb x=>rP p.cw<|aX (p.cm.lookup x) λr=>aX hp[r]? λo=>Pn o<|k fr<|hp.set r<|.fb<|ae v
def Bg(p:Pm)(ts:List TT)(vs:List AV)(fr:Frs)(hp:List AO)(k:Frs->List AO->VC):VC:=match ts with
 |[]=>wc vs<|k fr hp
 |t::ts=>qV vs λv vs=>JG p t v fr hp λfr hp=>Bg p ts vs fr hp k
def JH(p:Pm)(t:Tg)(v:AV)(fr:Frs)(hp:List AO)(k:Frs->List AO->VC):VC:=match t with
 |.one t=>JG p t v fr hp k
 |.many ts=>En v λxs=>Bg p ts xs fr hp k
def R0(r:Nat)(y:Nat)(v:AV)(hp:List AO)(k:List AO->VC):VC:=aX hp[r]? λo=>wg o λc ws=>aX (xY (qQ c) y) λi=>aX ws[i]? λz=>rP (c7 ws.length 900)<|k<|hp.set r<|.inst c<|ws.set i<|ae v
def qbA(N:Nat)(o:AO)(j:Int)(v:AV)(k:AO->VC):VC:=match o with
 |.lst xs=>.nd (0<=j/\j<2 ^ 63/\j<xs.length)<|k<|.lst<|xs.set j.toNat v
 |.tab n f=>fZ v λx=>.nd ((0<=j/\j<n/\0<=x)/\CQ N n f j.toNat x.toNat)<|k<|.tab n λi=>if i=j.toNat then x.toNat else f i
 |.dct f=>fZ v λx=>.nd (0<=j/\j<1000000/\0<=x)<|k<|.dct λi=>if i=j.toNat then ae x.toNat else f i
 |_=>.ff
def Wu(N:Nat)(o i v:AV)(hp:List AO)(k:List AO->VC):VC:=oZ o λr=>fZ i λj=>aX hp[r]? λo=>qbA N o j v λo=>k<|hp.set r o
noncomputable def qbB(op:qz)(i j:Int)(k:Int->VC):VC:=match op with
 |.Add=>k<|i+j
 |.Sub=>k<|i-j
 |.LShift=>.nd (rR i j)<|k<|i*2 ^ j.toNat
 |.RShift=>.nd (decide (0<=j)=ah)<|k<|i.fdiv<|2 ^ j.toNat
 |.BitOr=>k<|dM i j
 |_=>.ff
def R2(op:qz)(a b:AV)(k:AV->VC):VC:=fZ a λi=>fZ b λj=>qbB op i j λx=>k<|.int x
noncomputable def wA(o:AO)(k:VC):VC:=match o with |.gone=>k |_=>.ff
theorem wB(h:(wA o k).H):o= .gone/\k.H:=by cases o<;>first |exact⟨rfl,h⟩ |exact cq h
noncomputable def ui(r:Nat)(xs:List AV)(fr:Frs)(hp:List AO)(k:Frs->List AO->VC):VC:=aX hp[r]? λo=>wA o<|k fr<|hp.set r<|.lst xs
noncomputable def wC(n0:Nat)(J:Frs->List AO->Prop)(kb:Frs->List AO->VC)(kr:AV->Frs->List AO->VC)(fl:Fl)(fr:Frs)(hp:List AO):VC:=match fl with
 |.next=>.tn n0 fr hp J
 |.cnt=>.tn n0 fr hp J
 |.brk=>kb fr hp
 |.ret v=>kr v fr hp
noncomputable def Fl.nx(fl:Fl)(p q:VC):VC:=match fl with |.next=>p |_=>q
noncomputable def Fl.tn(fl:Fl)(p:VC)(kb:VC)(kr:AV->VC):VC:=match fl with
 |.next=>p
 |.cnt=>p
 |.brk=>kb
 |.ret v=>kr v
def UI(bd:AV->Frs->List AO->(Fl->Frs->List AO->VC)->VC)(k:Fl->Frs->List AO->VC):List AV->Frs->List AO->VC
 |[],fr,hp=>k .next fr hp
 |x::xs,fr,hp=>bd x fr hp λfl fr hp=>fl.tn (UI bd k xs fr hp) (k .next fr hp) λv=>k (.ret v) fr hp
def qbC(c:Nat)(x:bI)(k:VC)(vs:List AV):VC:=match vs with
 |[]=>rP (b0 c 100&&c7 x.length 900) k
 |i::r=>rP (b0 c 138&&c7 x.length 900) <| fZ i λi=>qV r λj r=>fZ j λj=>wc r<|.nd (i.natAbs.log2<1920/\j.natAbs.log2<1920) k
def Wv(c:Nat)(vs:List AV)(k:VC):VC:=qV vs λv r=>FW v λx=>qbC c x k r
def WS(p:Pm):IS->Frs->List AO->(Fl->Frs->List AO->VC)->VC
 |.nil,fr,hp,k=>k .next fr hp
 |.cons a r,fr,hp,k=>WS p a fr hp λfl fr hp=>fl.nx (WS p r fr hp k)<|k fl fr hp
 |.asg t e,fr,hp,k=>(iR p fr e).v hp λv hp=>JH p t v fr hp λfr hp=>k .next fr hp
 |.sat o y e,fr,hp,k=>(iR p fr e).v hp λv hp=>(iR p fr o).v hp λx hp=>oZ x λr=>R0 r y v hp λhp=>k .next fr hp
 |.RX o i e,fr,hp,k=>(iR p fr e).v hp λv hp=>(iR p fr o).v hp λx hp=>(iR p fr i).v hp λy hp=>Wu p.N x y v hp λhp=>k .next fr hp
 |.aug j op e,fr,hp,k=>aX fr[j]? λo=>aX o λa=>(iR p fr e).v hp λv hp=>R2 op a v λw=>JG p (.loc j) w fr hp λfr hp=>k .next fr hp
 |.o9 o y op e,fr,hp,k=>(iR p fr o).v hp λx hp=>oZ x λr=>aX hp[r]? λob=>wg ob λc ws=>aX (qX c ws y) λa=>(iR p fr e).v hp λv hp=>R2 op a v λw=>R0 r y w hp λhp=>k .next fr hp
 |.expr e,fr,hp,k=>(iR p fr e).v hp λv hp=>k .next fr hp
 |.ret e,fr,hp,k=>(iR p fr e).v hp λv hp=>k (.ret v) fr hp
 |.RY,fr,hp,k=>k (.ret .none) fr hp
 |.ite t a b,fr,hp,k=>(iR p fr t).t hp λq hp=>match q with
  |true=>WS p a fr hp k
  |false=>WS p b fr hp k
 |.wh t b,fr,hp,k=>.wh fr hp λJ JI ee=>(iR p JI t).t ee λq fO=>match q with
  |true=>WS p b JI fO<|wC hp.length J (k .next) λv=>k<|.ret v
  |false=>k .next JI fO
 |.forR t es b,fr,hp,k=>(iR p fr es).l hp λvs hp=>.rg vs fr hp (λJ i JI ee=>JH p t (.int i) JI ee λJI ee=>WS p b JI ee<|wC hp.length J (k .next) λv=>k<|.ret v)<|k .next
 |.forL t e b,fr,hp,k=>(iR p fr e).v hp λv hp=>match v with
  |.tup xs=>UI (λx fr hp k=>JH p t x fr hp λfr hp=>WS p b fr hp k) k xs fr hp
  |.ref r=>aX hp[r]? λob=>Eo ob λxs=>.fl xs fr (hp.set r .gone) (λJ x JI ee=>JH p t x JI ee λJI ee=>WS p b JI ee<|wC hp.length J (λfr hp=>ui r xs fr hp<|k .next) λv fr hp=>ui r xs fr hp<|k<|.ret v) λfr hp=>ui r xs fr hp<|k .next
  |_=>.ff
 |.brk,fr,hp,k=>k .brk fr hp
 |.cnt,fr,hp,k=>k .cnt fr hp
 |.pass,fr,hp,k=>k .next fr hp
 |.raise c es,fr,hp,k=>(iR p fr es).l hp λvs hp=>rP (c7 8 p.N)<|Wv c vs<|p.X c hp
 |.bad,_,_,_=>.ff
section
variable{c:Fm}
theorem Now.put(n:Now c R cC ω fr hp s)(h:SA c R ω fr' hp' s'):Now c R cC ω fr' hp' s':=⟨n.r,n.g,h⟩
theorem Rl.is(H:Sat C (Rl a v::l) s):∃o,Sat C (pt a o::l) s/\o.data= .cell v/\o.cls= .type "cell"/\s.heap.get? a=ae o:=by
 erw [nn λzn=>?_,aT H λf aH=>?_,-H,aK aH λg cX t=>?_,-aH,dF cX λg1 g2 gW jl hg=>?_,-cX,!gW,dh jl λo od oc oN=>?_,zn,-zn,-jl,!oN];have H0:Sat C (pt a o::l) s:=⟨f,_,⟨_,_,rfl,rfl,hg⟩,t⟩;exact(Ib o H0 od oc<|H0.get<|by rwa[af oc,nofun])
theorem R3(hk:env.scope.kind= .function)(hl:env.kindOf x=ae .cell)(hc:env.cells.lookup x=ae a)(e0:s.heap.get? a=ae o)(od:o.data= .cell v0)(h:Q () {s with heap:=s.heap.update a λo=>{o with data:=.cell<|ae w}}):aC M A (gy env x w) Q E s:=by
 unfold gy;simp only[hl,hk];refine ak<|wpAny_cellOf hc ?_;unfold cellSet;exact lB e0<|af od<|Le e0 h
theorem vj(sc:mr c.scope c.ns c.gs)(hx:x∈c.ns)(eo:fr[c.ns.idxOf x]? =ae o)(hv:v.Is ω w)(HS:SA c R ω fr hp s)(q:∀s',SA c R ω (fr.set (c.ns.idxOf x)<|ae v) hp s'->Q () s'):aC (bc c.C) A (gy c.env x w) Q E s:=by
 erw [nn λzn=>?_,aT HS λhl aH=>?_,-HS,aK aH λvs hv' H=>?_,zn,-zn,-aH];have hi:=dX.mpr hx;obtain⟨b,hb,-⟩:=hv'.at eo;exact QJ sc (Put.nk (af (aI hi)<|af (dQ _) rfl) hb) .here H λs' H'=>q _ ⟨hl,_,hv'.set<|show Aj ω (ae v) (ae w) from hv,H'⟩
theorem vk(n:Now c R cC ω fr hp s)(h:(JG c.p (tF c.ns x) v fr hp k).H)(hv:v.Is ω w)(q:∀fr hp s',(k fr hp).H->Now c R cC ω fr hp s'->Q () s'):
 aC (bc c.C) A (gy c.env x w) Q E s:=by
 unfold tF at h
 cases hx:c.ns.contains x with
 |true=>
  rw[hx] at h
  (apply bq h;intro o eo h)
  exact vj n.r.sc (bk.mp hx) eo hv n.S λs' H'=>q _ _ _ h<|n.put H'
 |false=>
  rw[hx] at h
  (apply jA h;intro hw h)
  (apply bq h;intro r er h)
  (apply bq h;intro o eo h)
  erw [nn λzn=>?_,aT (yq h) λaH hk=>?_,c4 aH λv0 cX=>?_,-aH,!cX];obtain⟨hs,-,-,hr,a,ea,eρ⟩:=n.r.cs x r er;erw [zn,-zn];have hs:=hs.resolve_right λh=>by rw[hw] at h;cases h.1
  refine nn λzn=>?_;obtain⟨ad,dU,l,H,-,put⟩:=n.S.obj eo;rw[n.g.same r hr,eρ] at dU;injection dU with dU;subst dU
  (apply Sat.Ax H;intro w0 H1)
  (apply Sat.sW H1;intro _ H2)
  erw [yW (Rl.is H2) λob H3 od oc e0=>?_,zn,-zn,R3 n.r.sc.kind hs ea e0 od<|q _ _ _ hk<|n.put<|put _ (.fb<|ae v) ?_];have e4:=bj (λo:fy=>{o with data:=.cell<|ae w}) e0 rfl;have H4:=H3.set (t:=s.toks) (bu s.heap a _) e4 (.inl ⟨λvs q=>by(contradiction),rfl⟩);rw[bU<|by rwa[(?_:ob.cls≠_),af oc,nofun]] at H4;exact H4.imp λg hg=>⟨ae w,hv,{ob with data:=.cell<|ae w},rfl,oc,hg⟩
theorem yr(h:kU c.ns (t::ts)=ae js):∃x p UJ,t= .Name x p/\js=tF c.ns x::UJ/\kU c.ns ts=ae UJ:=by
 rwa[nn λzn=>?_,aK (ez.mp h) λj hj h=>?_,aK (c9.mp h) λUJ hr aH=>?_,zn,-zn,!aH,aK (c9.mp hj) λr e aH=>?_,!aH,(Ic _ _ UJ (gG e) rfl hr)]
theorem C4:∀{js:List TT},kU c.ns ts=ae js->(rx ts env).length=js.length/\(rx ts env).findIdx? (·.1)=aq:=by
 induction ts with
 |nil=>
  intro js h
  (injection h with h;subst h);exact⟨rfl,rfl⟩
 |cons t ts ih=>
  intro js h;erw [xn (yr h) λx p UJ aH cX hr=>?_,!aH,!cX,aT (ih hr) λa b=>?_];have e:rx (.Name x p::ts) env=(ao,jq (.Name x p) env)::rx ts env:=rfl;erw [af e];exact⟨congrArg (· +1) a,by refine af (List.findIdx?_cons)<|af b ?_;rfl⟩
theorem GS:∀{xs:List AV} {fr:Frs} {hp:List AO} {k:Frs->List AO->VC},(Bg p js xs fr hp k).H->js.length=xs.length:=by
 induction js with
 |nil=>
  intro xs fr hp k h
  (apply rQ h;intro cK _;subst cK);rfl
 |cons j js ih=>
  intro xs fr hp k h
  (apply mG h;intro y ys cK h;subst cK)
  have:∃fr' hp',(Bg p js ys fr' hp' k).H:=by
   cases j with
   |loc j=>(apply bq h;intro o _ h);exact(Cr _ _ h)
   |fb x=>
    (apply jA h;intro _ h)
    (apply bq h;intro r _ h)
    (apply bq h;intro o _ h)
    exact(Cr _ _<|(yq h).2)
  rwa[vF this λfr' hp' h=>?_,-this,congrArg (· +1)<|ih h]
theorem JK:∀{js:List TT} {xs:List AV} {ws:List aG} {fr:Frs} {hp:List AO} {k:Frs->List AO->VC} {s:aE} {Q:Unit->aE->Prop},kU c.ns ts=ae js->(Bg c.p js xs fr hp k).H->Vs ω xs ws->Now c R cC ω fr hp s->(∀fr hp s',(k fr hp).H->Now c R cC ω fr hp s'->Q () s')->
 aC (bc c.C) A (pH ((rx ts c.env).map (·.2)) ws) Q E s:=by
 induction ts with
 |nil=>
  intro js xs ws fr hp k s Q h hs hv n q;injection h with h;subst h
  (apply rQ hs;intro cK hk;subst cK)
  cases hv
  exact au<|q _ _ _ hk n
 |cons t ts ih=>
  intro js xs ws fr hp k s Q h hs hv n q;erw [xn (yr h) λx p UJ aH cX hr=>?_,!aH,!cX]
  (apply mG hs;intro y ys cK hs2;subst cK)
  cases hv with
  | @cons _ b _ m p1 p2=>
    show aC _ _ (iO m (jq (.Name x p) c.env b)>>=λz=>pH ((rx ts c.env).map (·.2)) m) _ _ _;exact CK<|oV<|vk n hs2 p1 λfr hp s' h1 n1=>ih hr h1 p2 n1 q
theorem C5(hh:A.handled=aq)(ht:LN c.ns t=ae tg)(h:(JH c.p tg v fr hp k).H)(hv:v.Is ω w)(n:Now c R cC ω fr hp s)(q:∀fr hp s',(k fr hp).H->Now c R cC ω fr hp s'->Q () s'):
 aC (bc c.C) A (jq t c.env w) Q E s:=by
 cases e1:eS t with
 |some r=>
  unfold LN at ht;rw[e1] at ht;injection ht with ht;subst ht
  exact af (gG e1)<|oV<|vk n h hv q
 |none=>
  unfold LN at ht;rw[e1] at ht;erw [nn λzn=>?_,aK (ez.mp ht) λr e2 e3=>?_,aK (c9.mp e3) λjs hj aH=>?_,zn,-zn,!aH,af (mW e2)]
  (apply Jc h hv;intro xs a vs hm HW h2)
  rwa[nn λzn=>?_,c4 (n.S.tup hm) λl H=>?_,aT (C4 (env:=c.env) hj) λn1 n2=>?_,zn,-zn,Uj hh (Sat.tup H) (af n1<|af (GS h2)<|af a9<|af HW.length rfl) n2 λh' he=>JK hj h2 HW (n.put ?_) q,aK n.S.sat λl2 H2 back=>(back _<|H2.za he)]
theorem EC(h:(R2 op a b k).H)(ha:a.Is ω va)(hb:b.Is ω vb)(HS:SA c R ω fr hp s)(q:∀v w s',(k v).H->v.Is ω w->SA c R ω fr hp s'->Q w s'):aC (bc c.C) A (mP op va vb) Q E s:=by
 (apply rW h ha;intro i t h1)
 (apply rW h1 hb;intro j u h2)
 have q1:∀x,(k<|.int x).H->Q (.int x s.toks) {s with toks:=s.toks+1}:=λx hk=>q _ _ _ hk (dz.mpr ⟨_,rfl⟩) HS.toks
 cases op with
 |Add=>exact QT<|q1 _ h2
 |Sub=>exact QU<|q1 _ h2
 |LShift=>exact QV (q1 _ h2.2) h2.1.1 h2.1.2
 |RShift=>exact QW (q1 _ h2.2)<|of_decide_eq_true h2.1
 |BitOr=>exact VA<|q1 _ h2
 |_=>exact h2.elim
theorem ED{ad}(G:Gl c.C c.K)(F:KF c.K)(h:(R0 r (xA nm) v hp k).H)(ea:ω.ρ[r]? =ae ad)(hv:v.Is ω w)(HS:SA c R ω fr hp s)(q:∀hp s',(k hp).H->SA c R ω fr hp s'->Q () s'):
 aC (bc c.C) A (K7 (.ref ad) nm w) Q E s:=by
 (apply bq h;intro ob eo h)
 (apply wi h;intro m ws cK h;subst cK)
 (apply bq h;intro i h1 h)
 (apply bq h;intro o1 e1 h)
 (apply jA h;intro h3 hk)
 refine nn λzn=>?_;obtain⟨vs',l,ho,H,-,put⟩:=zj eo ea HS;obtain⟨b,hb,-⟩:=ho.at e1;rwa[zn,-zn,Iq G (CB F (rX h1).1) (Put.nk (rX h1).2 hb) .here (ho.length▸aa h3) H λs' H'=>q _ _ hk<|put _ _ _ (ho.set<|show Aj ω (ae v) (ae w) from hv) H']
theorem Nj(G:Gl c.C c.K)(F:KF c.K)(rm:Rm c.C c.A c.p.N)(h:(Wu c.p.N o i v hp k).H)(Ux:o.Is ω ov)(hiv:i.Is ω iv)(hv:v.Is ω w)(HS:SA c R ω fr hp s)(q:∀hp s',(k hp).H->SA c R ω fr hp s'->Q () s'):
 a6 (bc c.C) c.A (oA ov iv w) Q E s:=by
 erw [nn λzn=>?_,aK (pO h) λr aH h4=>?_,!aH,aK (dH h4) λj aH h5=>?_,zn,-zn,!aH]
 (apply eM Ux;intro ad ea)
 (apply cx hiv;intro t)
 erw [-h,-h4,nn λzn=>?_,aK (bX h5) λob eo h=>?_];obtain⟨Eu,dU,l,H,-,put⟩:=HS.obj eo;erw [zn,-zn];rw[ea] at dU;injection dU with dU;subst dU
 have R4:∀{s':aE} (o:AO),Sat c.C (o.P ω ad::l) s'->(k<|hp.set r o).H->Q () s':=λo h1 h2=>q _ _ h2<|put _ _ h1
 cases ob with
 |lst xs=>
  rwa[nn λzn=>?_,c4 (Sat.ex.mp H) λU8 H1=>?_,aT (Sat.pure.mp H1) λhx H1=>?_,zn,-zn,a6.of<|Ei .here H1 h.1.1 h.1.2.1 (hx.length▸h.1.2.2) λs' H'=>R4 (.lst _) (H'.imp λg hg=>⟨_,hx.set hv,hg⟩) h.2]
 |tab n f=>
  erw [dh (dH<|show(fZ v _).H from h) λy aH hc h3=>?_,!aH]
  (apply cx hv;intro u)
  rwa[c4 (c6 hc.1.1) λj aH=>?_,!aH,c4 (c6 hc.1.2.2) λy aH=>?_,!aH,hc.2 G F rm H λs' H'=>R4 (.tab _ _) H' h3]
 |dct f=>
  erw [dh (dH<|show(fZ v _).H from h) λy aH hc h3=>?_,!aH]
  (apply cx hv;intro u)
  exact a6.of<|MN hc.1 hc.2.1 hc.2.2 H λs' H'=>R4 (.dct λi=>if i=j.toNat then ae y.toNat else f i) H' h3
 |_=>exact h.elim
end
def Ww(ω:Om)(fl:Fl)(f:La):Prop:=match fl with
 |.next=>f= .next
 |.brk=>f= .brk
 |.cnt=>f= .cont
 |.ret v=>∃w,f= .ret w/\v.Is ω w
def nM(c:Fm)(R:List bp)(cC:Bs)(k:Fl->Frs->List AO->VC)(Q:La->aE->Prop):Prop:=∀fl fr hp ω f s,(k fl fr hp).H->Now c R cC ω fr hp s->Ww ω fl f->Q f s
def C6(c:Fm)(a:gK):Prop:=∀{R cC ω fr hp s k Q},Now c R cC ω fr hp s->(WS c.p (RZ c.ns c.gs a) fr hp k).H->nM c R cC k Q->a6 (bc c.C) c.A (exec a c.env) Q c.E s
def SS(c:Fm)(a:List gK):Prop:=∀{R cC ω fr hp s k Q},Now c R cC ω fr hp s->(WS c.p (uh c.ns c.gs a) fr hp k).H->nM c R cC k Q->a6 (bc c.C) c.A (oB a c.env) Q c.E s
section
variable{c:Fm}{R:List bp}{cC:Bs}{ω:Om}{fr:Frs}{hp:List AO}{s:aE}
theorem R5:SS c []:=λn hW q=>IH<|q .next _ _ _ .next _ hW n rfl
theorem Nk(h1:C6 c a)(h2:SS c r):SS c (a::r):=λn hW q=>m5 (h1 n hW λfl fr' hp' bb f' s' hk n' hf=>by
 cases fl with
 |next=>rwa[!hf,h2 n' hk q]
 |brk=>rwa[!hf,q .brk _ _ _ .brk _ hk n' rfl]
 |cnt=>rwa[!hf,q .cnt _ _ _ .cont _ hk n' rfl]
 |ret v=>refine aK hf λw aH hw=>?_;clear hf;subst aH;exact q (.ret v) _ _ _ (.ret w) _ hk n' ⟨w,rfl,hw⟩)
theorem pT{o:Option α}{k:α->IS}(h:(WS p (wx o k) fr hp kk).H):∃x,o=ae x/\(WS p (k x) fr hp kk).H:=by
 cases o with
 |none=>exact h.elim
 |some x=>exact(bV x rfl h)
theorem Nl{P:Prop}{o:Option α}{k:α->IS}(h:(WS p (wx o k) fr hp kk).H)(q:∀x,o=ae x->(WS p (k x) fr hp kk).H->P):P:=let⟨x,e,h⟩:=pT h;q x e h
theorem r5(h:(WS p (Bf b is) fr hp kk).H):b=ah/\(WS p is fr hp kk).H:=by
 cases b
 . exact h.elim
 . exact⟨rfl,h⟩
theorem uj{P:Prop}(h:(WS p (Bf b is) fr hp kk).H)(q:b=ah->(WS p is fr hp kk).H->P):P:=q (r5 h).1 (r5 h).2
theorem wD(h:zl ao l k=ah):∃a b,l=[a,b]/\k a b=ah:=by
 match l,h with
 |[a,b],h=>exact(vE a b rfl h)
theorem JL{P:Prop}(h:zl ao l k=ah)(q:∀a b,l=[a,b]->k a b=ah->P):P:=let⟨a,b,e,h⟩:=wD h;q a b e h
theorem C7(h:wz ao e k=ah):∃x p,e= .Name x p/\k x p=ah:=by
 unfold wz at h
 cases e1:eS e with
 |none=>rw[e1] at h;contradiction
 |some r=>rw[e1] at h;exact(vE _ _ (gG e1) h)
theorem Bh{e:Expr}{P:Expr->Prop}{k:bI->Pos->Bool}(h:wz ao e k=ah)(q:∀x p,k x p=ah->P (.Name x p)):P e:=let⟨x,p,e,h⟩:=C7 h;e▸q x p h
theorem C8(h:zm ao e k=ah):∃l kk p,e= .Tuple l kk p/\k l=ah:=by
 unfold zm at h
 cases e1:qN e with
 |none=>rw[e1] at h;contradiction
 |some r=>rw[e1] at h;exact(Me _ _ _ (mW e1) h)
theorem JM{P:Expr->Prop}(h:zm ao e k=ah)(q:∀l kk p,k l=ah->P (.Tuple l kk p)):P e:=let⟨l,kk,p,e,h⟩:=C8 h;e▸q l kk p h
theorem C9(n:Rn c R cC)(h:(c.ns.contains x1&&c.ns.contains x2)=ao):pI [.Tuple [.Name x1 p1,.Name x2 p2] kk p] (.Tuple [a,b] kk2 p3) c.env=cg aq:=by
 have key:∀x,c.ns.contains x=ao->(c.env.kindOf x==ae .local)=ao:=λx hx=>by
  cases e:c.env.kindOf x==ae .local with
  |false=>rfl
  |true=>
   have:=n.sc.only x<|beq_iff_eq.mp e;rw[<-bk,hx] at this;contradiction
 have hb:(c.env.blockKind != .function)=ao:=by
  erw [(?_:((if c.scope.kind.isAnnotationScope then B7 else c.scope.kind)!=_)=_),af n.sc.kind];rfl
 erw [af (EA _)<|af hb ?_,JD<|Nh ?_];rcases Bool.and_eq_false_iff.mp h with h1 |h1
 . erw [af (key _ h1)];rfl
 . rwa[af (key x2 h1),yO _]
theorem Nm(n:Now c R cC ω fr hp s)(ht:kU c.ns ts=ae js)(h:(JH c.p (.many js) v fr hp λfr hp=>k .next fr hp).H)(hv:v.Is ω w)(q:nM c R cC k Q):
 a6 (bc c.C) c.A (assignAll w [jq (.Tuple ts kk p) c.env]>>=λz=>cg LY) Q c.E s:=
 bh (C5 (tg:=.many js) n.r.rm.handled (by refine(?_:(kU c.ns _).map _=_);refine af ht ?_;rfl) h hv n λfr hp s2 hk n2=>aY<|q .next _ _ _ .next _ hk n2 rfl)
theorem R6(n:Now c R cC ω fr hp s)(h1:x1∈c.ns)(h2:x2∈c.ns)(mO:x1≠x2)(h:(JH c.p (.many [tF c.ns x1,tF c.ns x2]) v fr hp λfr hp=>k .next fr hp).H)(hv:v.Is ω w)(q:nM c R cC k Q):
 a6 (bc c.C) c.A (unpackItems w [x1,x2].length aq>>=λitems=>pH ([x1,x2].reverse.map λn=>Oy c.env n) items.reverse>>=λz=>cg LY) Q c.E s:=by
 (apply Ep h;intro xs cK h;subst cK)
 (apply mG h;intro u1 r1 cK h;subst cK)
 have e1:tF c.ns x1= .loc (c.ns.idxOf x1):=by unfold tF;(first |exact(bk.mpr h1) |exact congrArg _ (bk.mpr h1) |exact af (bk.mpr h1) rfl)
 have e2:tF c.ns x2= .loc (c.ns.idxOf x2):=by unfold tF;(first |exact(bk.mpr h2) |exact congrArg _ (bk.mpr h2) |exact af (bk.mpr h2) rfl)
 rw[e1] at h
 (apply bq h;intro o1 g1 h)
 (apply mG h;intro u2 r2 cK h;subst cK)
 rw[e2] at h
 (apply bq h;intro o2 g2 h)
 (apply rQ h;intro cK hk;subst cK)
 (apply i3 hv;intro ad vs hm HW)
 erw [dF (yR HW) λw1 w2 aH i1 i2=>?_,!aH]
 have hij:c.ns.idxOf x1≠c.ns.idxOf x2:=λe=>mO (by
  have a:=dQ<|dX.mpr h1;have b:=dQ<|dX.mpr h2
  refine dq a<|dq b ?_;congr 1)
 rw[gV hij] at g2;erw [nn λzn=>?_,aT n.S λhl aH=>?_,aK aH λvs hf HH=>?_,zn,-zn,-aH,a6.of<|mB (Rj (env:=c.env) (x1:=x1) (x2:=x2) (E:=c.E) (Q:=λz lP=>Q .next lP) n.r.rm.handled (.tail _<|a5 _<|bB _<|dW.mpr<|bV _ hm rfl) HH λs2 H2=>?_) λitems s5 h5=>mB h5 λz z h6=>au h6];exact vj n.r.sc h2 g2 i2 ⟨hl,vs,hf,H2⟩ λs3 H3=>vj n.r.sc h1 (by rwa[af (gV hij.symm) ?_,g1]) i1 H3 λs4 H4=>q .next _ _ _ .next _ hk (n.put<|by rwa[af (Uk _ _ hij),H4]) rfl
theorem R7(hp':JE c.ns ts e=ah)(ht:kU c.ns ts=ae js)(n:Now c R cC ω fr hp s)(hW:(WS c.p (.asg (.many js)<|tr c.ns c.gs e) fr hp k).H)(q:nM c R cC k Q):a6 (bc c.C) c.A (exec (.Assign [.Tuple ts kk p] e pos) c.env) Q c.E s:=by
 erw [n6 (wD hp') λt1 t2 aH h=>?_,!aH,-hp']
 revert hW ht
 (apply Bh h;intro x1 p1 h3)
 (apply Bh h3;intro x2 p2 h4)
 (apply JM h4;intro l kk2 p3 h5 hW ht)
 (apply JL h5;intro a b cK h6;subst cK)
 (apply CV h6;intro _ h6)
 refine nn λzn=>?_;obtain⟨sw,e0,hsw⟩:∃sw:Bool,pI [.Tuple [.Name x1 p1,.Name x2 p2] kk p] (.Tuple [a,b] kk2 p3) c.env=cg (if sw then ae [x1,x2] else aq)/\(sw=ah->x1∈c.ns/\x2∈c.ns/\x1≠x2):=by
  cases e1:c.ns.contains x1&&c.ns.contains x2 with
  |false=>exact(bV ao (C9 n.r e1) λh=>by contradiction)
  |true=>
   rw[e1] at h6;refine c4 (mn.mp h6) λsw hc=>?_;have m1:=bk.mp (fj e1).1;have m2:=bk.mp (fj e1).2;refine(bV sw (C3 n.r.sc m1 m2 hc) λz=>(gp m1 m2 λe=>?_));unfold Ad at hc;rw[e] at hc;simp at hc
 erw [aK (ez.mp ht) λj1 e1 h1=>?_,zn,-zn];injection e1 with e1;subst e1
 injection h1 with h1;subst h1
 erw [af (qaT _ _ _ _)<|af (rZ (show jQ (.Tuple [a,b] kk2 p3)=ah from rfl) _)<|af e0 ?_,ou<|pC<|aR<|(yS _).v n hW λv ee da w s1 hk ex hv H=>?_]
 cases sw with
 |false=>exact Nm (kk:=kk) (n.next ex H) ht hk hv q
 |true=>
  exact lE (hsw rfl) λm1 m2 mO=>(R6 (n.next ex H) m1 m2 mO hk hv q)
theorem pU{P:Prop}{o:Option α}{f:α->IS}(h:(WS p (xe o f e) fr hp kk).H)(q1:∀x,o=ae x->(WS p (f x) fr hp kk).H->P)(q2:(WS p e fr hp kk).H->P):P:=by
 cases o with
 |none=>exact q2 h
 |some x=>exact q1 x rfl h
theorem Wx:C6 c (.Assign [t] e pos):=λ{R cC ω fr hp s k Q} n hW q=>by
 have hW:(WS c.p (Wq c.ns c.gs t e) fr hp k).H:=hW;refine pU hW (λr e1 hW=>?_) λhW=>pU hW (λr e1 hW=>?_) λhW=>pU hW (λr e1 hW=>?_) λhW=>pU hW (λr e1 hW=>?_) λhW=>hW.elim
 . refine af (gG e1) ?_
   (apply uj hW;intro hn Au)
   exact VH ((yS _).v n Au λv ee da w s1 hk ex hv H=>vk (n.next ex H) hk hv λfr hp s' h1 n1=>q .next _ _ _ .next _ h1 n1 rfl)<|kQ hn _ _
 . refine af (mV e1) ?_
   (apply uj hW;intro hn Au)
   refine kR (fj hn).1<|(yS _).v n Au λv ee da w s1 hk ex hv H=>(yS _).v (n.next ex H) hk λov fO ip ow s2 mf nL Ux H2=>?_
   (apply wq mf Ux;intro r ad ea Cb)
   exact ED n.r.G n.r.F Cb ea (hv.ext nL) H2 λhp s' hk H'=>q .next _ _ _ .next _ hk (((n.next ex H).next nL H2).put H') rfl
 . refine af (F7 e1) ?_
   (apply uj hW;intro hn Au)
   rwa[C2 (fj hn).1 (λa b d p e=>by rw[e] at hn;cases(fj hn).2)<|(yS _).v n Au λv ee da w s1 hk ex hv H=>(yS _).v (n.next ex H) hk λov fO ip ow s2 mf nL Ux H2=>(yS _).v ((n.next ex H).next nL H2) mf λiv hp3 LP iw s3 Cb ex3 hiv H3=>?_,Nj n.r.G n.r.F n.r.rm Cb (Ux.ext ex3) hiv ((hv.ext nL).ext ex3) H3 λhp s' hk H'=>q .next _ _ _ .next _ hk ((((n.next ex H).next nL H2).next ex3 H3).put H') rfl]
 . refine af (mW e1) ?_
   (apply uj hW;intro hc Au)
   (apply Nl Au;intro js hj LQ)
   cases ht:Cu e with
   |true=>
    rw[ht] at hc;exact R7 hc hj n LQ q
   |false=>
    rw[ht] at hc;exact RW hc ht ((yS _).v n LQ λv ee da w s1 hk ex hv H=>C5 (tg:=.many js) n.r.rm.handled (by erw [(?_:(kU c.ns _).map _=_),af hj];rfl) hk hv (n.next ex H) λfr hp s' hk n'=>q .next _ _ _ .next _ hk n' rfl)
theorem Wy:C6 c (.AugAssign t op e pos):=λ{R cC ω fr hp s k Q} n hW q=>by
 have hW:(WS c.p (Wr c.ns c.gs t op e) fr hp k).H:=hW;refine pU hW (λr e1 hW=>?_) λhW=>pU hW (λr e1 hW=>?_) λhW=>hW.elim
 . refine af (gG e1) ?_
   (apply uj hW;intro hc Au)
   have hm:=bk.mp hc;have hx:c.ns[c.ns.idxOf r.1]? =ae r.1:=af (aI<|dX.mpr hm)<|af (dQ _) rfl
   (apply bq Au;intro o eo LQ)
   (apply bq LQ;intro a eq Po)
   erw [!eq,nn λzn=>?_,aT n.S λhl aH=>?_,aK aH λvs hv H=>?_,-aH,aK (hv.at eo) λb hb ib=>?_]
   cases b with
   |none=>rwa[zn,-zn,ib.elim]
   |some w=>refine zn ?_;clear zn;exact RU<|lH n.r.sc.kind (n.r.sc.locals _ hm) H.fr ((At.nk hx hb).look n.r.sc.nodup) ((yS _).v n Po λv ee da w1 s1 hk ex hv1 H1=>EC hk (AV.Is.ext ex ib) hv1 H1 λv2 w2 s2 mf t8 H2=>
    bq (show(aX fr[c.ns.idxOf r.1]? λz=>k .next (fr.set (c.ns.idxOf r.1)<|ae v2) ee).H from mf) λo MV mf=>
    vj n.r.sc hm MV t8 H2 λs3 H3=>q .next _ _ _ .next _ mf ((n.next ex H1).put H3) rfl)
 . refine af (mV e1) ?_
   (apply uj hW;intro hp' Au)
   refine RV<|(yS _).v n Au λov ee da ow s1 hk ex Ux H=>?_
   (apply wq hk Ux;intro r ad ea mf)
   (apply bq mf;intro ob eo Cb)
   (apply wi Cb;intro m ws eq hk4)
   subst eq
   (apply bq hk4;intro a e1 hk5)
   exact Jo n.r.G n.r.F eo ea e1 H λaw s2 haw H2=>(yS _).v (n.next ex H2) hk5 λv fO ip w2 s3 hk6 nL t8 H3=>EC hk6 (AV.Is.ext nL haw) t8 H3 λv3 w3 s4 hk7 Wi H4=>
    ED n.r.G n.r.F hk7 (nL.at ea) Wi H4 λhp s' hk H'=>q .next _ _ _ .next _ hk (((n.next ex H2).next nL H4).put H') rfl
theorem R8:C6 c (.Expr e pos):=λ{R cC ω fr hp s k Q} n hW q=>by
 (apply uj (show(WS c.p (Bf (jQ e)<|.expr<|tr c.ns c.gs e) fr hp k).H from hW);intro hn Au)
 exact zb ((yS _).v n Au λv ee da w s1 hk ex hv H=>q .next _ _ _ .next _ hk (n.next ex H) rfl) (by erw [(?_:(c.scope.kind== .module&&_)=ao),af n.r.sc.kind];rfl)<|kQ hn _ _
theorem Wz:C6 c (.Return (ae e) pos):=λn hW q=>O7<|(yS _).v n hW λv ee da w s1 hk ex hv H=>q (.ret v) _ _ _ (.ret w) _ hk (n.next ex H) ⟨w,rfl,hv⟩
theorem R9:C6 c (.Return aq pos):=λn hW q=>a6.of<|wpAny_Return_none<|q (.ret .none) _ _ _ (.ret .none) _ hW n ⟨.none,rfl,fK.mpr rfl⟩
theorem WA:C6 c (.Break pos):=λn hW q=>a6.of<|wpAny_Break<|q .brk _ _ _ .brk _ hW n rfl
theorem WB:C6 c (.Continue pos):=λn hW q=>a6.of<|wpAny_Continue<|q .cnt _ _ _ .cont _ hW n rfl
theorem Sa:C6 c (.Pass pos):=λn hW q=>a6.of<|wpAny_Pass<|q .next _ _ _ .next _ hW n rfl
theorem qbD(ha:SS c body)(hb:SS c orelse):C6 c (.If t body orelse pos):=λn hW q=>Wj ((yS _).t n hW λp ee da s1 hk ex H=>by
 cases p with
 |true=>exact ha (n.next ex H) hk q
 |false=>exact hb (n.next ex H) hk q)
theorem Rn.re(r:Rn c R cC)(g:Agree cC.m cC.o da)(hm:cC.m<=m):Rn c R ⟨da,m⟩:=
 ⟨r.G,r.F,r.rm,r.sc,r.po,λx i e=>by
   erw [nn λzn=>?_,Mf (r.cs x i e) λh1 h2 h3 h4 aH=>?_,aK aH λa h5 h6=>?_,zn,-zn,-aH]
   exact⟨h1,h2,h3,aJ h4 hm,a,h5,(g.same i h4).trans h6⟩,λho ag=>r.hO ho<|g.trans ag hm,λx hp' bb a s' h1 h2 h3 H=>r.hX x hp' bb a s' h1 (g.trans h2 hm) h3 H⟩
theorem Now.at(n:Now c R cC ω fr hp s):Now c R ⟨ω,hp.length⟩ ω fr hp s:=⟨n.r.re n.g<|n.S.1▸n.g.l2,.refl<|n.S.1▸aA _,n.S⟩
theorem Now.back{da}(n:Now c R cC ω fr hp s){fr'}{hp'}{s'}(h:Now c R ⟨ω,hp.length⟩ da fr' hp' s'):Now c R cC da fr' hp' s':=⟨n.r,n.g.trans h.g<|n.S.1▸n.g.l2,h.S⟩
theorem JS.go(h:JS cC.m fr hp J)(n:Now c R cC ω fr hp s):∃bb fr' hp',J fr' hp'/\Now c R cC bb fr' hp' s:=by
 rwa[nn λzn=>?_,n6 h λfr' hp' hi hj=>?_,-h,aK (hi c R ω s n.g.l2 n.S) λbb ag H=>?_,zn,-zn,⟨bb,fr',hp',hj,n.r,n.g.trans ag<|aA _,H⟩]
theorem JN{kb:Frs->List AO->VC}{kr:AV->Frs->List AO->VC}{Qn:La->aE->Prop}(hk:(wC cC.m J kb kr fl fr hp).H)(n:Now c R cC ω fr hp s)(hf:Ww ω fl f)(q0:∀ω fr hp,J fr hp->Now c R cC ω fr hp s->Qn .next s/\Qn .cont s)(q1:(kb fr hp).H->Qn .brk s)(q2:∀v w,v.Is ω w->(kr v fr hp).H->Qn (.ret w) s):Qn f s:=by
 have go:JS cC.m fr hp J->Qn .next s/\Qn .cont s:=λh=>by
  exact Ig (h.go n) λbb fr' hp' hj n'=>(q0 bb fr' hp' hj n')
 cases fl with
 |next=>rwa[!hf,(go hk).1]
 |cnt=>rwa[!hf,(go hk).2]
 |brk=>rwa[!hf,q1 hk]
 |ret v=>rwa[aK hf λw aH hw=>?_,-hf,!aH,q2 v w hw hk]
theorem Nn(hb:SS c body):C6 c (.While t body orelse pos):=λ{R cC ω fr hp s k Q} n hW q=>by
 (apply uj (show(WS c.p (Bf (r4 orelse)<|.wh (tr c.ns c.gs t)<|uh c.ns c.gs body) fr hp k).H from hW);intro ho Au)
 cases orelse with
 |cons=>contradiction
 |nil=>
  erw [n6 Au λJ m h0 turn=>?_,-Au,JA (λm s=>∃ip wF fO,J m wF fO/\Now c R ⟨ω,hp.length⟩ ip wF fO s) m (JS.go (cC:=⟨ω,hp.length⟩) h0 n.at) (λm s h=>?_) n.r.po,Ig h λip wF fO hj n2=>?_,-h,(yS _).t n2 (turn m wF fO hj) λp ee da s1 hk ex H=>?_]
  cases p with
  |false=>exact q .next _ _ _ .next _ hk (n.back<|n2.next ex H) rfl
  |true=>exact hb (n2.next ex H) hk λfl fr3 hp3 LP f3 s3 Cb n3 hf=>JN (cC:=⟨ω,hp.length⟩) (Qn:=λf s'=>match f with
   |.next |.cont=>∃m',m'<m/\∃ip wF fO,J m' wF fO/\Now c R ⟨ω,hp.length⟩ ip wF fO s'
   |.brk=>Q .next s'
   |.ret v=>Q (.ret v) s') Cb n3 hf (λω fr hp hj n=>by obtain⟨m',hm,hj⟩:=hj;exact⟨⟨m',hm,ω,fr,hp,hj,n⟩,⟨m',hm,ω,fr,hp,hj,n⟩⟩) (λh=>q .next _ _ _ .next _ h (n.back n3) rfl) λv w hv h=>q (.ret v) _ _ _ (.ret w) _ h (n.back n3) ⟨w,rfl,hv⟩
end
section
variable{c:Fm}{R:List bp}{cC:Bs}{ω:Om}{fr:Frs}{hp:List AO}{s:aE}
theorem Rn.more(r:Rn c R cC):Rn c (P::R) cC:=
 ⟨r.G,r.F,r.rm,r.sc,r.po,r.cs,r.hO,λx hp' bb a s' h1 h2 h3 H=>r.hX x hp' bb a s' h1 h2 h3 (iC<|H.perm<|pf.symm.cons<|yk a x).drop⟩
theorem Now.ex(n:Now c R cC ω fr hp s)(g:Agree hp.length ω da):mh ω da:=by unfold mh;rwa[af n.S.1,g]
def LI(c:Fm)(R:List bp)(cC:Bs)(J:Nat->Frs->List AO->Prop)(It:Nat->bp)(i:Nat)(s:aE):Prop:=∃ω fr hp,J i fr hp/\Agree cC.m cC.o ω/\SA c (It i::R) ω fr hp s
theorem LI.start(h:JS cC.m fr hp (J 0))(g:Agree cC.m cC.o ω)(H:SA c (It 0::R) ω fr hp s):LI c R cC J It 0 s:=by
 rwa[n6 h λfr' hp' hi hj=>?_,-h,aK (hi c (It 0::R) ω s g.l2 H) λbb ag H=>(⟨bb,fr',hp',hj,g.trans ag<|aA _,H⟩)]
theorem Bi{Fin}(IT:Iter c.C c.A it It Fin n Pv)(h0:LI c R cC J It 0 s)(hg:∀i l s v,Sat c.C (It (i+1)::l) s->Pv i v->∀(Q:Unit->aE->Prop) E,Q () s->aC (bc c.C) c.A (gR target it v) Q E s)(hf:∀ω fr hp s l,Agree cC.m cC.o ω->J n fr hp->Sat c.C (Fin++l) s->(∀s',Sat c.C l s'->SA c R ω fr hp s')->(∀P' s',Sat c.C (P'::l) s'->SA c (P'::R) ω fr hp s')->fin s):
 C1 c.C c.A target n (LI c R cC J It) (λi v s=>Pv i v/\∃ω fr hp,J i fr hp/\Agree cC.m cC.o ω/\SA c (It (i+1)::R) ω fr hp s) fin it s:=by
 refine⟨h0,λi s Q E hi h q=>?_,λs Q E h q=>?_⟩
 . refine nn λzn=>?_;refine xn h λω fr hp j ag H=>?_;clear h
   rwa[dh H.out λl H1 b1 b2=>?_,zn,-zn,IT.item i l Q E s hi H1 λv s' hv H'=>q v s' (hg i l s' v H' hv) ⟨hv,ω,fr,hp,j,ag,b1 _ _ H'⟩]
 . refine nn λzn=>?_;refine xn h λω fr hp j ag H=>?_;clear h
   rwa[dh H.out λl H1 b1 b2=>?_,zn,-zn,IT.fin l Q E s H1 λs' H'=>q s'<|hf ω fr hp s' l ag j H' b2 b1]
theorem yt(h1:aC (bc C) A (cg ()) Q E s)(h2:aC (bc C) A (gR (.Tuple [] 0 default) it w) Q E s):aC (bc C) A (gR target it w) Q E s:=by
 cases target<;>first |exact h1 |exact h2
theorem Bj(ho:s.heap.get? r=ae o)(hc:o.cls= .type T)(hd:o.data= .fields vs)(hT:["enumerate","zip","dict_itemiterator","dict_reverseitemiterator","odict_iterator","itertools.zip_longest","itertools.pairwise"].contains T=ao)(q:Q () s):aC (bc C) A (gR target (.ref r) w) Q E s:=by
 have key:∀a,w= .ref a->aC (bc C) A (do
  let o<-load r
  match o.cls,o.data with
  |.type n,.fields vs=>
   if["enumerate","zip","dict_itemiterator","dict_reverseitemiterator","odict_iterator","itertools.zip_longest","itertools.pairwise"].contains n&&vs[0]? ==ae (fC a) then
    rule "for.unpacks-the-owned-tuple"
    updateField r 0 .none
  |_,_=>cg ()) Q E s:=by
  intro a _;rwa[lB ho,af hc<|af hd ?_,(?_:aC _ A (if(["enumerate","zip","dict_itemiterator","dict_reverseitemiterator","odict_iterator","itertools.zip_longest","itertools.pairwise"].contains T&&vs[0]? ==ae (fC a))=ah then _ else _) Q E s),af hT (af (Ql _)<|af (if_neg<|by decide) ?_),au q]
 erw [yt (au q)];cases w<;>first |exact au q |exact key _ rfl
theorem Bk(hw:∀a,w≠ .ref a)(q:Q () s):aC (bc C) A (gR target it w) Q E s:=by
 erw [yt (au q)];cases it<;>first |exact au q |(cases w<;>first |exact absurd rfl (hw _) |exact au q)
theorem Dd(h:ze vs a d n)(hv:Vs ω vs ws)(H:Sat C l s)(q:∀r b t u v s',fp a b d=ah->(n:Int)=cV a b d->Sat C (pt r (Uw a b d t u v)::l) s'->Q (.ref r) s'):aC (bc C) A (i5 (.type "range") ws) Q E s:=by
 obtain⟨hn,h⟩:=h
 have al:∀{b t u v k},fp a b d=ah->(n:Int)=cV a b d->Q (.ref s.heap.objs.size) {s with heap:=s.heap.push<|Uw a b d t u v,toks:=k}:=λ{b t u v k} h1 h2=>q _ b t u v _ h1 h2 (by
  have:=H.alloc (t:=k) (o:=Uw a b d t u v) rfl
  rw[bU<|not_eq_of_beq_eq_false rfl] at this;exact this)
 rcases h with⟨rfl,rfl,rfl⟩ |⟨rfl,ha,rfl⟩ |⟨rfl,e,rfl⟩
 . obtain⟨w,rfl,h1⟩:=LG hv
   (apply cx h1;intro t)
   exact call_range_1<|al (yg hn).1 (yg hn).2
 . obtain⟨w,w2,rfl,h1,h2⟩:=yR hv
   (apply cx h1;intro t)
   (apply cx h2;intro u)
   exact call_range_2<|al (yh hn ha).1 (yh hn ha).2
 . cases hv with |cons h1 hv=>?_
   obtain⟨w2,w3,rfl,h2,h3⟩:=yR hv
   (apply cx h1;intro t)
   (apply cx h2;intro u)
   (apply cx h3;intro v)
   rwa[!e,call_range_3 (nofun) (al (yi hn).1 (yi hn).2)<|Or.inl<|PyProof.noPylong_small<|by lia]
theorem yu(h:vH e=ao)(x:aG):oH e env x=cg x:=by
 cases e<;>first |rfl |contradiction
theorem zo(hb:SS c body)(ht:LN c.ns t=ae tg)(n:Now c R cC ω fr hp s)(hv:v.Is ω w)(hW:(JH c.p tg v fr hp λfr hp=>WS c.p (uh c.ns c.gs body) fr hp kk).H)(q:nM c R cC kk Qq):
 aC (bc c.C) c.A (jq t c.env w) (λz s=>a6 (bc c.C) c.A (oB body c.env) Qq c.E s) c.E s:=
 C5 n.r.rm.handled ht hW hv n λfr hp s' hk n'=>hb n' hk q
theorem JO{It:Nat->bp}{J:Nat->Frs->List AO->Prop}{kb:Frs->List AO->VC}{kr:AV->Frs->List AO->VC}{i:Nat}{Q:La->aE->Prop}{R':List bp}(q1:∀ω fr hp s,Now c (It (i+1)::R) cC ω fr hp s->(kb fr hp).H->Q .next s)(q2:∀ω fr hp v w s,Now c (It (i+1)::R) cC ω fr hp s->v.Is ω w->(kr v fr hp).H->Q (.ret w) s):
 nM c (It (i+1)::R) cC (wC cC.m (J<|i+1) kb kr) λf s=>match f with
  |.next |.cont=>LI c R cC J It (i+1) s
  |.brk=>Q .next s
  |.ret v=>Q (.ret v) s:=λfl fr hp ω f s hk n hf=>JN (Qn:=λf s=>match f with
  |.next |.cont=>LI c R cC J It (i+1) s
  |.brk=>Q .next s
  |.ret v=>Q (.ret v) s) hk n hf (λω fr hp hj n=>⟨⟨ω,fr,hp,hj,n.g,n.S⟩,⟨ω,fr,hp,hj,n.g,n.S⟩⟩) (q1 ω fr hp s n) λv w hv h=>q2 ω fr hp v w s n hv h
theorem Sb{It:Nat->bp}{u:Frs->List AO->VC}{k:Fl->Frs->List AO->VC}{i:Nat}{Q:La->aE->Prop}{J:Nat->Frs->List AO->Prop}(hJ:∀fr hp,(u fr hp).H->J (i+1) fr hp)(q1:∀ω fr hp s,Now c (It (i+1)::R) cC ω fr hp s->(k .next fr hp).H->Q .next s)(q2:∀ω fr hp v w s,Now c (It (i+1)::R) cC ω fr hp s->v.Is ω w->(k (.ret v) fr hp).H->Q (.ret w) s):
 nM c (It (i+1)::R) cC (λfl fr hp=>fl.tn (u fr hp) (k .next fr hp) λv=>k (.ret v) fr hp) λf s=>match f with
  |.next |.cont=>LI c R cC J It (i+1) s
  |.brk=>Q .next s
  |.ret v=>Q (.ret v) s:=λfl fr hp ω f s hk n hf=>by
 cases fl with
 |next=>rwa[!hf,⟨ω,fr,hp,hJ _ _ hk,n.g,n.S⟩]
 |cnt=>rwa[!hf,⟨ω,fr,hp,hJ _ _ hk,n.g,n.S⟩]
 |brk=>rwa[!hf,q1 _ _ _ _ n hk]
 |ret v=>rwa[aK hf λw aH hw=>?_,-hf,!aH,q2 _ _ _ _ _ _ n hw hk]
end
def Qv{α:Type}(S:Setting):qD α->List fy->List br×qD α
 |.rule _ k=>Qv S<|k ()
 |.point _ k=>Qv S<|k ()
 |.ask k=>Qv S<|k S
 |.load a p k=>λos=>List.rec ([],.load a p k) (λo os z=>(a::(Qv S (k o) os).1,(Qv S (k o) os).2)) os
 |t=>λz=>([],t)
def AtL(h:B3):List br->List fy->Prop
 |a::as,o::os=>h.get? a=ae o/\AtL h as os
 |_,_=>True
theorem Sd(t:qD α):
 ∀os:List fy,AtL s.heap (Qv ⟨M.prog,M.w.params⟩ t os).1 os->qfc M Γ (Qv ⟨M.prog,M.w.params⟩ t os).2 Q E p s->qfc M Γ t Q E p s:=by
 induction t with
 |rule _ k ih=>exact ih ()
 |point _ k ih=>exact ih ()
 |ask k ih=>exact ih _
 |load a q k ih=>
  intro os
  cases os with
  |nil=>exact λz h=>h
  |cons o os=>exact λh j=>⟨o,h.1,ih o os h.2 j⟩
 |_=>exact λz z h=>h
noncomputable def TbO(h:B3):List (br×fy)->Prop
 |[]=>True
 |p::l=>h.get? p.1=ae p.2/\TbO h l
noncomputable def Sf(tb:List (br×fy))(js:List Nat):List (Option<|br×fy):=js.map λj=>tb[j]?
noncomputable def WC(l:List (Option<|br×fy)):List fy:=l.filterMap λx=>x.map (·.2)
noncomputable def tbQ(l:List (Option<|br×fy)):List br:=l.filterMap λx=>x.map (·.1)
theorem WD{h:B3}{tb:List (br×fy)}(H:TbO h tb){j:Nat}{p:br×fy}(e:tb[j]? =ae p):h.get? p.1=ae p.2:=by
 induction tb generalizing j with
 |nil=>contradiction
 |cons q l ih=>cases j with
  |zero=>injection e with e;subst e;exact H.1
  |succ j=>exact ih H.2 e
theorem De(H:TbO h tb):∀js:List Nat,AtL h (tbQ<|Sf tb js) (WC<|Sf tb js)
 |[]=>trivial
 |j::js=>by
  unfold Sf tbQ WC;rw[bW]
  cases e:tb[j]? with
  |none=>exact De H js
  |some p=>exact⟨WD H e,De H js⟩
def lkL{α:Type}(S:Setting)(tb:List (br×fy))(js:List Nat)(t:qD α):List br×qD α:=Qv S t<|WC<|Sf tb js
def lkR{α:Type}(tb:List (br×fy))(js:List Nat)(t:qD α):List br×qD α:=(tbQ<|Sf tb js,t)
theorem qe7{Q:α->aE->Prop}{t:qD α}{t':qD α}(tb:List (br×fy))(js:List Nat)(H:TbO s.heap tb)(h:aC M A t' Q E s)(e:lkL ⟨M.prog,M.w.params⟩ tb js t=lkR tb js t'):aC M A t Q E s:=λΓ p hΓ=>
 Sd t (WC<|Sf tb js) ((congrArg (λx=>AtL s.heap x.1<|WC<|Sf tb js) e).mpr<|De H js) ((congrArg (λx:List br×qD α=>qfc M Γ x.2 (λa z s'=>Q a s') (λe z s'=>E e s') p s) e).mpr<|h Γ p hΓ)
section
open Builtin Builtin.ObjectAttr
noncomputable abbrev pg(c:Nat)(t:br):fy:={cls:=.ref c,data:=.fields #[.ref t,.none,.none,.none,.bool ao,.none]}
section
variable{os:hZ}
variable{sub:List aG}{k1:Option aG}
theorem zr(hC:h.get? c=ae (tR nm q c N bs jb ah sn sub ao col dd k0 k1 k2 k3 k5 "ValueError.__new__"))(hq:Q () ⟨h,g,d,t,os⟩):aC M A (eu "ValueError.__new__" ⟨.ref c::rest,[]⟩) Q E ⟨h,g,d,t,os⟩:=
 qe7 [(c,_)] [0,0,0,0,0,0,0] ⟨hC,trivial⟩ (au hq) (by kernel_rfl)
theorem Sg(hC:h.get? c=ae (tR nm q c N bs jb ah sn sub ao col dd k0 k1 k2 k3 k5 "ValueError.__new__"))(hq:R (.ok<|.ret<|.ref<|h.objs.size+1) ⟨(h.push {cls:=.type "tuple",data:=.seq rest.toArray}).push<|pg c h.objs.size,g,d,t,os⟩)(Qw:rest.length<=lJ):
 Lc (bx prog w) A (.builtin "ValueError.__new__" ⟨.ref c::rest,[]⟩) R ⟨h,g,d,t,os⟩:=by
 have Fn:=PySem.F.excBase_ValueError;have qe9:=Fn.ends;have hcB:(cF c::jb).contains (.type "ValueError")=ah:=by rw[fe,show jb.contains (.type "ValueError")=ah from by rfl,oI]
 have hcA:(cF c::jb).contains (.type "AttributeError")=ao:=by rw[fe,show jb.contains (.type "AttributeError")=ao from by rfl];rfl
 have hcN:(cF c::jb).contains (.type "NameError")=ao:=by rw[fe,show jb.contains (.type "NameError")=ao from by assumption];rfl
 erw [codeAny_builtinAt Fn.entry];unfold dr.«BaseException.__new__»;erw [PySem.wpAt_bind,(?_:PySem.wpAt _ _ _ (stack>>=_) _ _ _),PySem.wpAt_bind<|PySem.wpAt_stack λp below=>PySem.wpAt_of_wpAny ?_]
 wp_walk
 erw [PySem.wpAt_of_wpAny];rw[Fn.owner]
 repeat (first |with_reducible refine wpAny_madeHere_exc Fn.canon hC ?_ |with_reducible refine xU hC ?_ |(with_reducible refine Qm hC ?_;first |rw[hcB] |rw[hcA] |rw[hcN]) |wp_step)
 refine(?_:R _ _);rw[lU];exact hq
theorem Np(hC:h.get? c=ae (tR nm q c N bs jb ah sn sub ao col dd k0 k1 k2 k3 k5 "ValueError.__new__"))(hi:dA (bx prog w) h (cD (.ref c) "__init__") (ae init))(hb:∀self,dA (bx prog w) h (bindSpecial init self) (init,[self]))(Qw:rest.length<=lJ)(hq:cQ (bx prog w) (A.under<|.builtin "type.__call__" ⟨.ref c::rest,[]⟩) (.call init ⟨.ref (h.objs.size+1)::rest,[]⟩) (DT (h.objs.size+1) R) ⟨(h.push {cls:=.type "tuple",data:=.seq rest.toArray}).push<|pg c h.objs.size,g,d,t,os⟩):
 cQ (bx prog w) A (.call (.ref c) ⟨rest,[]⟩) R ⟨h,g,d,t,os⟩:=by
 have Fn:=PySem.F.excBase_ValueError;have tT:dA (bx prog w) h (nD<|.ref c) (.type "type"):=(fV hC).andThen .now;have i5:dA (bx prog w) h (fQ (.ref c) "__call__") (ae<|.builtin "type.__call__"):=tT.andThen<|mN tc_lookup;have typ:dA (bx prog w) h (iH (.ref c)<|.type "type") ah:=tT.andThen<|mN tc_sub;have hm:dA (bx prog w) h (xR<|.ref c) (.ref c::jb):=((fV (part:=aq) hC).andThen .now).andThen .now;erw [cT<|a6.of ?_,(?_:aC _ _ (Ck (.ref c) _) _ _ _),nd_load hC,(?_:aC _ _ (lT (.ref c) _) _ _ _)];unfold lT;refine ak<|i5.at ?_;dsimp only;rw[tc_bind];erw [pB<|pB ?_,au (a:=Fin.again<|.call (.builtin "type.__call__") ⟨.ref c::rest,[]⟩)<|w8 ⟨rfl,rfl⟩ ?_];have hqt:(gw "type.__call__" ⟨.ref c::rest,[]⟩).quiet=ah:=iV _ (by decide+kernel);have hdt:Ab (gw "type.__call__" ⟨.ref c::rest,[]⟩)=ao:=qS (by rfl) _;erw [iE hqt hdt];have htc:=tc_args (.ref c) rest [];have Rb:dA (bx prog w) (⟨h,g,d,t,os⟩:aE).heap (iH (.ref c)<|.type "type") ah:=typ
 with_reducible refine Uc (i:="type.__call__") (owner:="type") (n:="__call__") tc_kind tc_split Rb htc ?_
 erw [gv qeX,(?_:a6 _ _ (xR (.ref c)>>=_) _ _ _),VT hm];simp only[Li,bE,if_false];refine bh<|wpAny_madeBy_exc hC ?_;dsimp only;erw [pC,bh<|cL<|DU<|codeAny_call_builtin_code (iV _ Fn.quiet)<|zr hC<|Sg hC ?_ Qw];generalize htu:({cls:=.type "tuple",data:=.seq rest.toArray}:fy)=tu at hq |-;have k:∀b o,h.get? b=ae o->((h.push tu).push<|pg c h.objs.size).get? b=ae o:=λb o e=>cH _<|cH _ e
 have hx:((h.push tu).push<|pg c h.objs.size).get? (h.objs.size+1)=ae (pg c h.objs.size):=by
  have:=rC (o:=pg c h.objs.size) (h.push tu) rfl;rw[lU] at this;exact this
 have t1:dA (bx prog w) ((h.push tu).push<|pg c h.objs.size) (nD<|.ref<|h.objs.size+1) (.ref c):=(fV hx).andThen .now;have hcC:(cF c::jb).contains (.ref c)=ah:=List.elem_cons_self;have i1:=hi.keeps k;have b1:=(hb<|.ref<|h.objs.size+1).keeps k
 have s1:dA (bx prog w) ((h.push tu).push<|pg c h.objs.size) (gB (.ref c)<|.ref c) ah:=by
  refine Looks.keeps ?_ k;unfold gB;exact hm.andThen (by refine(?_:dA _ _ (cg<|(cF c::jb).contains<|.ref c) _);rw[hcC];exact .now)
 have n1:dA (bx prog w) ((h.push tu).push<|pg c h.objs.size) (iH (.ref<|h.objs.size+1)<|.ref c) ah:=t1.andThen s1;erw [(?_:a6 _ _ (iH _ _>>=_) _ _ _),VT n1];simp only[sG,bE,if_false];erw [Qu];have sp:dA (bx prog w) ((h.push tu).push<|pg c h.objs.size) (fQ (.ref<|h.objs.size+1) "__init__") (ae init):=t1.andThen i1;unfold rq;erw [VT sp];dsimp only;erw [bJ<|VT b1<|aR ?_,eK<|m6 hq λr s' z=>?_];rcases r with e |(v |_ |_ |_)<;>first |exact z |exact z.elim |skip
 obtain⟨rfl,z⟩:=z;exact aY<|aY z
end
def yw(a:br)(c n:Nat):bp:=λg=>∃o vs t,o.cls= .ref c/\o.data= .fields vs/\vs[0]? =ae (.ref t)/\vs[1]? =ae .none/\
 ((o.dict=aq/\g=[(a,o)])\/∃dx od es ep,o.dict=ae dx/\od.data= .dict es ep/\od.cls= .type "dict"/\jj es/\es.size<=n/\g=[(a,o),(dx,od)])
section
variable{C:Cx}{A:c5}{K:qo}{s:aE}{l:List bp}{a c f n:Nat}{E:aG->aE->Prop}{rest:List aG}{v:aG}{x:bI}
theorem wG(H:Sat C (yw a c n::l) s):∃o vs t,o.cls= .ref c/\o.data= .fields vs/\vs[0]? =ae (.ref t)/\vs[1]? =ae .none/\
 ((o.dict=aq/\Sat C (pt a o::l) s)\/∃dx od es ep,o.dict=ae dx/\od.data= .dict es ep/\od.cls= .type "dict"/\jj es/\es.size<=n/\Sat C (pt a o::pt dx od::l) s):=by
 erw [nn λzn=>?_,aT H λf aH=>?_,-H,aK aH λg cX th=>?_,-aH,dF cX λg1 g2 gW jl hg=>?_,-cX,!gW,mq jl λo vs t hc hd h0 h1 h=>?_,zn,-zn,-jl,⟨o,vs,t,hc,hd,h0,h1,?_⟩];rcases h with⟨h2,rfl⟩ |⟨dx,od,es,ep,h2,h3,h4,h5,h6,rfl⟩
 . exact .inl ⟨h2,f,_,⟨_,_,rfl,rfl,hg⟩,th⟩
 . exact .inr ⟨dx,od,es,ep,h2,h3,h4,h5,h6,f,_,⟨[_],_,rfl,rfl,[_],_,rfl,rfl,hg⟩,th⟩
theorem EE(hc:o.cls= .ref c)(hd:o.data= .fields vs)(h0:vs[0]? =ae (.ref t))(h1:vs[1]? =ae .none)(h2:o.dict=aq)(H:Sat C (pt a o::l) s):Sat C (yw a c n::l) s:=
 H.imp λg hg=>⟨o,vs,t,hc,hd,h0,h1,.inl ⟨h2,hg⟩⟩
theorem zt(hc:o.cls= .ref c)(hd:o.data= .fields vs)(h0:vs[0]? =ae (.ref t))(h1:vs[1]? =ae .none)(h2:o.dict=ae dx)(h3:od.data= .dict es ep)(h4:od.cls= .type "dict")(h5:jj es)(h6:es.size<=n)(H:Sat C (pt a o::pt dx od::l) s):Sat C (yw a c n::l) s:=by
 rwa[Sat.imp ((Sat.unpack (l:=[_,_])).mpr H) λg hg=>?_,dF hg λg1 g2 aH cX gW=>?_,-hg,!aH,!cX,dF gW λg3 g4 jl oN Sh=>?_,-gW,!jl,!oN,!Sh,⟨o,vs,t,hc,hd,h0,h1,.inr ⟨dx,od,es,ep,h2,h3,h4,h5,h6,rfl⟩⟩]
theorem EF(G:Gl C K)(e:sY K c f)(H:Sat C l s)(hr:rest.length<=lJ)(k:∀x s',Sat C (yw x c 0::l) s'->cQ (bc C) (A.under<|.builtin "type.__call__" ⟨.ref c::rest,[]⟩) (.call (.ref f) ⟨.ref x::rest,[]⟩) (DT x Rr) s'):
 cQ (bc C) A (.call (.ref c) ⟨rest,[]⟩) Rr s:=by
 have X:=G.X H;have ob:=e.ob;obtain⟨hh,g,d,t,os⟩:=s;refine Np (X _ _ ob) (iP X e.ini) (λself=>bind_fn X self<|beq_iff_eq.mp e.fn) hr<|k _ _ ?_;have H1:=H.alloc (o:={cls:=.type "tuple",data:=.seq rest.toArray}) (t:=t) rfl;have H2:=H1.alloc (o:=pg c hh.objs.size) (t:=t) rfl;rw[bU (by exact nofun),bU<|not_eq_of_beq_eq_false rfl,show(hh.push {cls:=.type "tuple",data:=.seq rest.toArray}).objs.size=hh.objs.size+1 from lU ..] at H2;exact EE rfl rfl rfl rfl rfl<|(iC H2).drop
theorem xG{sub}{k1}(hC:s.heap.get? c=ae (tR nm q c N bs jb ah sn sub ao col dd k0 k1 k2 k3 k5 "ValueError.__new__"))(he:s.heap.get? e=ae oe)(qe8:oe.cls= .ref c)(hq:Q () s):
 aC M A (eu "ValueError.__init__" ⟨.ref e::rest,[]⟩) Q E s:=by
 have F:=PySem.F.excBase_ValueError;obtain⟨h,g,d,t,os⟩:=s;have hC:h.get? c=_:=hC;have he:h.get? e=_:=he;have hcB:(cF c::jb).contains (.type "ValueError")=ah:=by rw[fe,show jb.contains (.type "ValueError")=ah from by decide+kernel,oI]
 have qaZ:=F.noStar;simp only[eu,F.initKind,F.initSplit,F.initRow]
 repeat (first |(with_reducible refine xU he ?_;rw[qe8]) |with_reducible refine xU hC ?_ |(with_reducible refine Qm hC ?_;rw[hcB]) |wp_step)
 erw [qfi]
 rw[show ∀(a b:String) (n:Nat),Bind.check ⟨.positional,"*","ValueError",.self,[⟨"args",.varPos,ao⟩]⟩ a b n (nY (λx=>x.fst) ({pos:=cF e::rest}:Args).kw)=cg () from
  λa b n=>check_star_args _ _ _ _ _ _]
 exact au hq
theorem Nq(G:Gl C K)(e:sY K c f){Q}(H:Sat C (yw a c n::l) s)(hr:rest.length<=lJ)(q:∀s',Sat C (yw a c n::l) s'->Q .none s'):
 aC (bc C) A (i5 (.builtin "ValueError.__init__")<|.ref a::rest) Q E s:=by
 have F:=PySem.F.excBase_ValueError;have X:=G.X H;have ob:=e.ob;refine mq (wG H) λo vs t hc hd h0 h1 h=>?_;have mO:o.cls≠ .type "frame":=by rw[hc];simp
 have he:s.heap.get? a=ae o:=by
  rcases h with⟨_,H1⟩ |⟨_,_,_,_,_,_,_,_,_,H1⟩<;>exact H1.get mO
 refine DU<|OC F.init.plain F.initEntry<|xG (X _ _ ob) he hc ?_;unfold dr.«BaseException.__init__»;dsimp only;rw[if_neg<|by simp];unfold newTuple Hy;have HX:0<vs.size:=(lM.mp h0).1;have Cd:=cH (h:=s.heap) {cls:=.type "tuple",data:=.seq rest.toArray} he;erw [ak (j0 (aB<|oF Cd hd h0<|ak<|j7 Cd hd HX ?_)<|by refine(?_:rest.toArray.size<=lJ);rw[a9];exact hr),wpAny_letGo<|au<|q _ ?_];have xf:=i7 hd (·.setIfInBounds 0<|cF s.heap.objs.size);have FZ:=bj (eW (·.setIfInBounds 0<|cF s.heap.objs.size)) Cd<|gL xf;have Uy:(eW (·.setIfInBounds 0<|cF s.heap.objs.size) o).cls= .ref c:=(eB _ _).trans hc
 have U6:(eW (·.setIfInBounds 0<|cF s.heap.objs.size) o).dict=o.dict:=by
  obtain⟨oc,od,oda,osl⟩:=o;subst hd;rfl
 have key:∀{l},Sat C (pt a o::l) s->Sat C (pt a (eW (·.setIfInBounds 0<|cF s.heap.objs.size) o)::l) {s with heap:=(s.heap.push {cls:=.type "tuple",data:=.seq rest.toArray}).update a (eW (·.setIfInBounds 0<|.ref s.heap.objs.size))}:=λH1=>by
  have H2:=H1.alloc (o:={cls:=.type "tuple",data:=.seq rest.toArray}) (t:=s.toks) rfl;have H3:=(iC H2).set (t:=s.toks) (bu _ a _) FZ<|.inr ⟨_,hd⟩;rw[bU<|by rw[Uy];simp] at H3;exact(iC H3).drop
 have f0:(vs.setIfInBounds 0<|cF s.heap.objs.size)[0]? =ae (.ref s.heap.objs.size):=by simp[HX]
 have f1:(vs.setIfInBounds 0<|cF s.heap.objs.size)[1]? =ae .none:=by simp[h1]
 rcases h with⟨h2,H1⟩ |⟨dx,od,es,ep,h2,h3,h4,h5,h6,H1⟩
 . exact EE Uy xf f0 f1 (U6.trans h2)<|key H1
 . exact zt Uy xf f0 f1 (U6.trans h2) h3 h4 h5 h6<|key H1
theorem EG(H:Sat C (yw a c n::l) s):∃o oo,InstAt s.heap a o c oo:=by
 refine mq (wG H) λo vs t hc hd h0 h1 h=>?_;have mO:o.cls≠ .type "frame":=by rw[hc];exact nofun
 rcases h with⟨h2,H1⟩ |⟨dx,od,es,ep,h2,h3,h4,h5,h6,H1⟩
 . exact⟨o,aq,H1.get mO,hc,by unfold notCls;rw[hd],by rw[h2];trivial⟩
 . exact⟨o,ae od,H1.get mO,hc,by unfold notCls;rw[hd],by rw[h2];exact(iC H1).get<|by rw[h4];exact nofun⟩
theorem Si(G:Gl C K)(e:sY K c f)(hx:jY K (.ref c) x=ae aq)(hn:n<=900)(H:Sat C (yw a c n::l) s)(q:∀s',Sat C (yw a c (n+1)::l) s'->R (.ok<|.ret .none) s'):
 Lc (bc C) A (.call (.builtin "object.__setattr__") ⟨[.ref a,.str x tk,v],[]⟩) R s:=by
 have SF:=PySem.F.store_ValueError;have X:=G.X H;have ob:=e.ob;refine nn λzn=>?_;obtain⟨cd,LC,Uv,Qy⟩:∃cd,clsIn K c=ae cd/\cd.mro= .ref c::jb/\cd.hasDict=ah:=⟨_,by unfold clsIn;rw[ob],rfl,rfl⟩;erw [vF (EG H) λo oo I=>?_,zn,-zn];have hm:dA (bc C) s.heap (xR<|.ref c) cd.mro:=(An X LC).andThen .now
 have WE:dA (bc C) s.heap (iH (.ref a)<|.type "object") ah:=I.type.andThen (looks_mroIn X (by
  unfold mroIn;rw[LC,Option.bind_some,Uv,if_neg<|nofun,fe,show jb.contains (.type "object")=ah from by rfl,oI]))
 refine OC SF.slot.plain SF.entry<|@Uc (bc C) _ _ s "object.__setattr__" "object" "__setattr__" (.ref a) [.str x tk,v] [] _ SF.kind SF.split WE (SF.args (.ref a) (.str x tk) v) ?_;rw[osa_eq,refuse_eq];refine aB<|I.type.here<|ak<|hm.here ?_;rw[Uv,qe1,qe1,SF.passes];erw [au<|ak<|I.type.here<|ak<|(iP X hx).here<|pB (a:=(aq:Option aG)) ?_,-I,-hm,-WE,mq (wG H) λo vs t hc hd h0 h1 h=>?_];have mO:o.cls≠ .type "frame":=by rw[hc];exact nofun
 refine pB<|ak ?_;rcases h with⟨h2,H1⟩ |⟨dx,od,es,ep,h2,h3,h4,h5,h6,H1⟩
 . have he:=H1.get mO
   obtain⟨oc,odi,oda,osl⟩:=o;dsimp only at hc hd h2;erw [!hc,!hd,!h2,ak<|DP he<|ak<|(An X LC).here ?_];rw[Qy];refine ak<|tP ?_;have H2:=H1.alloc (o:=gA) (t:=s.toks) rfl;rw[bU<|by exact nofun] at H2;have he2:=(iC H2).get mO;generalize s.heap.objs.size=dx at H2 |-;have e3:=bj (λo:fy=>{o with dict:=ae dx}) he2 rfl;refine ak<|Le he2 ?_;have H3:=(iC H2).set (t:=s.toks) (bu _ a _) e3<|.inr ⟨_,rfl⟩;rw[bU<|by trivial] at H3;refine au (a:=ae dx)<|pB<|ak ?_;have e4:=(iC H3).get<|nofun;refine gP e4 (es:= #[]) (ep:=0) rfl (λe he=>by simp at he) λhash=>(Ct (gO (o:=gA) (es:= #[]) (ep:=0) rfl (λe he=>by simp at he) x hash s.toks v) λCo ep' d1 d2 d3 d4 d5 d6 d7=>?_);have sz:Co.size<=1:=by rw[d7];split<;>simp
   have D':=bj (dy x hash (.str x s.toks) v) e4<|gq d1;refine ak (qq D' (by rw[d1];exact zT<|by rw[bw];exact‹a<=1->a<=16777216+1› sz)<|au<|q _ ?_);have H5:=(iC H3).set (t:=s.toks+1) (bu _ dx<|dy x hash (.str x s.toks) v) D' (.inl ⟨λvs q=>by(rw[d1] at q;contradiction),d2⟩);rw[bU<|by rw[d2];exact nofun] at H5;exact zt rfl rfl h0 h1 rfl d1 d2 d5 (‹a<=1->a<=b+1› sz)<|iC H5
 . have he:=H1.get mO
   have e4:=(iC H1).get (by rw[h4];exact nofun);obtain⟨oc,odi,oda,osl⟩:=o;dsimp only at hc hd h2;erw [!hc,!hd,!h2,ak<|DP he<|ak<|(An X LC).here ?_];rw[Qy];erw [au (a:=ae dx)<|pB<|ak ?_,gP e4 h3 h5 λhash=>(Ct (gO h3 h5 x hash s.toks v) λCo ep' d1 d2 d3 d4 d5 d6 d7=>?_)];have sz:Co.size<=n+1:=by rw[d7];split<;>lia
   have D':=bj (dy x hash (.str x s.toks) v) e4<|gq d1;refine ak (qq D' (by rw[d1];exact zT<|by rw[bw];exact‹a<=900->b<=a+1->b<=16777216+1› hn sz)<|au<|q _ ?_);have H5:=(iC H1).set (t:=s.toks+1) (bu _ dx<|dy x hash (.str x s.toks) v) D' (.inl ⟨λvs q=>by(rw[d1] at q;contradiction),d2⟩);rw[bU<|by rw[d2,h4];exact nofun] at H5;exact zt rfl rfl h0 h1 rfl d1 (d2.trans h4) d5 (sz)<|iC H5
theorem zu(G:Gl C K)(e:sY K c f){Q}(hx:x∈[ab "reason",ab "kind",ab "size",ab "most"])(hn:n<=900)(H:Sat C (yw a c n::l) s)(q:∀s',Sat C (yw a c (n+1)::l) s'->Q () s'):
 aC (bc C) A (K7 (.ref a) x v) Q E s:=by
 exact vF (EG H) λo oo I=>(set_plain (G.X H) I e.set<|Si G e (e.no x hx) hn H.toks q)
end
noncomputable def Ci:DE:=⟨36,"PressError.__init__",(ae 2),0,.ref 29,["self","reason"],["ValueError"]⟩
theorem Df:qP 36=ae Ci:=by kernel_rfl
noncomputable def b36:List gK:=[.Expr (.Call (.Attribute (.Name "ValueError" ⟨8,8,8,18⟩) "__init__" ⟨8,8,8,27⟩) [.Name "self" ⟨8,28,8,32⟩,.Name "reason" ⟨8,34,8,40⟩] [] ⟨8,8,8,41⟩) ⟨8,8,8,41⟩,.Assign [.Attribute (.Name "self" ⟨9,8,9,12⟩) "reason" ⟨9,8,9,19⟩] (.Name "reason" ⟨9,22,9,28⟩) ⟨9,8,9,28⟩]
theorem Sj:Ci.body=b36:=by kernel_rfl
section
variable{K:qo}{a:Nat}
theorem Nr(X:K.In s.heap)(h:Q (.builtin "ValueError.__init__",[]) {s with toks:=s.toks+1}):aC (bc C) A (k9 (.type "ValueError") "__init__" pl) Q E s:=by
 have hs:Manifest.isStub "ValueError"=ao:=by kernel_rfl
 have ht:nD (.type "ValueError")=cg (.type "type"):=by kernel_rfl
 have e:findCls K (.type "ValueError") (.type "type") "__init__"=ae (.val<|.builtin "ValueError.__init__"):=by kernel_rfl
 have qaa:z6 (.type "ValueError")=cg aq:=by unfold z6;dsimp only;rw[hs];rfl
 have L0:dA (bc C) s.heap (nD<|.type "ValueError") (.type "type"):=mN ht;have hg:jY K (.type "type") "__getattribute__"=ae (ae<|.builtin "type.__getattribute__"):=type_tga;unfold k9 fQ;refine ak<|ak<|L0.here<|(iP X hg).here ?_;dsimp only;rw[if_pos canon_tga];refine ak<|cP (Q:=λv=>Q (v,[])) (E:=E) ?_ (λy y z=>au z) λy y z=>z;have LO:dA (bc C) s.heap (z6<|.type "ValueError") aq:=mN qaa
 refine cls_open X LO L0 hg (looks_hook X (r:=aq)<|by rfl) (by refine(?_:subIn K _ _=_);rfl) e
  (au<|by refine(?_:aC _ _ (handedOut _) _ _ _);rw[handedOut_of<|by rfl];exact au h)
theorem kW(k:Nat)(sc:mr scope ns gs)(H:Sat C (ml L ns vs::l) s)(h1:ns[k]? =ae x)(h2:vs[k]? =ae (ae v))(q:∀s',Sat C (ml L ns vs::l) s'->Q v s'):a6 (bc C) A (eval (.Name x pos)<|eo qual scope L f cdv cl) Q E s:=a6.of (Cw sc (.head _) (At.nk h1 h2) _ _ _ H λz z e H=>by rwa[!e,q _ H])
theorem JP(G:Gl C K)(F:KF K)(e:sY K c f)(rm:Rm C A (m+1))(hn:n<=800)(H:Sat C (yw a c n::l) s)(q:∀s',Sat C (yw a c (n+1)::l) s'->R (.ok<|.ret .none) s'):
 cQ (bc C) A (.call (.ref 36) ⟨[.ref a,v],[]⟩) R s:=by
 refine aT (kF Df) λAe he=>?_;have sc:=AB _ Ae;refine jy (ns:=Ci.ns) (gs:=Ci.gs) (rest:=[]) (binds:=[("self",.ref a),("reason",v)]) G (vP F Df) rm sc (λname kV doc pm an ct=>fI (T:=29) (by kernel_rfl) (G.X H _ _<|F.rG (29,[.str (ab "") 208])<|.head _) rfl rfl rfl) rfl rfl H λL s1 H1 EH G1=>?_;rw[Sj];have H1:Sat (C.push L) (ml L Ci.ns [ae<|.ref a,ae v]::yw a c n::l) s1:=H1;rwa[m5 (zb (vf rfl rfl rfl (by rwa[(?_:2<29),aa rfl])<|a6.of<|vd (K:=K) G1 F sc (.head _) (by exact nG rfl:(ab "ValueError",dB "ValueError")∈gX) _ _ _ H1 λw s2 hw H2 pl=>?_) (by refine(?_:(Ci.scope.kind== .module&&_)=ao);rw[sc.kind];rfl)<|kQ rfl _ _),!hw,Nr (G1.X H2) (jF (first:=[]) (λa e=>by contradiction) (iK rfl)<|kA (jm rfl)<|kG<|kW 0 sc H2.toks rfl rfl λs3 H3=>kG<|kW 1 sc H3 rfl rfl λs4 H4=>rJ<|a6.of<|Nq G1 e (iC H4) (by refine(?_:1<=lJ);rw[bw];exact‹1<=16777216›) λs5 H5=>?_),m5<|kR rfl<|kW 1 sc (iC H5) rfl rfl λs6 H6=>kW 0 sc H6 rfl rfl λs7 H7=>zu G1 e (.head _) (by exact‹a<=800->a<=900› hn) (iC H7) λs8 H8=>IH<|q _ (iC H8).leave]
noncomputable def GU:DE:=⟨135,"TooLarge.__init__",(ae 9),0,.none,["self","kind","size","most"],["PressError"]⟩
theorem EI:qP 135=ae GU:=by kernel_rfl
noncomputable def vu1:bI:=.ofString " of "
noncomputable def vu2:bI:=.ofString ", at most "
def qbE:List gK:=[.Expr (.Call (.Attribute (.Name "PressError" ⟨30,8,30,18⟩) "__init__" ⟨30,8,30,27⟩) [.Name "self" ⟨30,28,30,32⟩,.JoinedStr [.FormattedValue (.Name "kind" ⟨30,37,30,41⟩) (-1) aq ⟨30,36,30,42⟩,.Constant (.str vu1) 0 ⟨30,42,30,46⟩,.FormattedValue (.Name "size" ⟨30,47,30,51⟩) (-1) aq ⟨30,46,30,52⟩,.Constant (.str vu2) 0 ⟨30,52,30,62⟩,.FormattedValue (.Name "most" ⟨30,63,30,67⟩) (-1) aq ⟨30,62,30,68⟩] ⟨30,34,30,69⟩] [] ⟨30,8,30,70⟩) ⟨30,8,30,70⟩,
 .Assign [.Attribute (.Name "self" ⟨31,8,31,12⟩) "kind" ⟨31,8,31,17⟩] (.Name "kind" ⟨31,20,31,24⟩) ⟨31,8,31,24⟩,.Assign [.Attribute (.Name "self" ⟨32,8,32,12⟩) "size" ⟨32,8,32,17⟩] (.Name "size" ⟨32,20,32,24⟩) ⟨32,8,32,24⟩,.Assign [.Attribute (.Name "self" ⟨33,8,33,12⟩) "most" ⟨33,8,33,17⟩] (.Name "most" ⟨33,20,33,24⟩) ⟨33,8,33,24⟩]
theorem Nt:GU.body=qbE:=by kernel_rfl
theorem vl(k:Nat)(sc:mr scope ns gs)(H:Sat C (ml L ns vs::l) s)(h1:ns[k]? =ae x)(h2:vs[k]? =ae (ae v))(q:∀s',Sat C (ml L ns vs::l) s'->Q v s'):aC (bc C) A (eval (.Name x pos)<|eo qual scope L f cdv cl) Q E s:=Cw sc (.head _) (At.nk h1 h2) _ _ _ H λz z e H=>by rwa[!e,q _ H]
theorem qbF:(39,[(0,36)])∈ub:=by decide+kernel
theorem nm0:Cy 0="__init__":=by rfl
theorem Nu(G:Gl C K)(F:KF K)(e:sY K c f)(rm:Rm C A (m+2))(hk:k.length<=900)(hi:i.natAbs.log2<1920)(hj:j.natAbs.log2<1920)(hn:n<=700)(H:Sat C (yw a c n::l) s)(q:∀s',Sat C (yw a c (n+4)::l) s'->R (.ok<|.ret .none) s'):
 cQ (bc C) A (.call (.ref 135) ⟨[.ref a,.str k t1,.int i t2,.int j t3],[]⟩) R s:=by
 refine aT (kF EI) λAe he=>?_;have sc:=AB _ Ae;refine jy (ns:=GU.ns) (gs:=GU.gs) (rest:=[]) (binds:=[("self",.ref a),("kind",.str k t1),("size",.int i t2),("most",.int j t3)]) G (vP F EI) rm sc (λname kV doc pm an ct=>xV<|by kernel_rfl) rfl rfl H λL s1 H1 EH G1=>?_;have H1:Sat (C.push L) (ml L GU.ns [ae<|.ref a,ae<|.str k t1,ae<|.int i t2,ae<|.int j t3]::yw a c n::l) s1:=H1;rw[Nt];have h1:vu1.length<=900:=by exact nI rfl
 have h2:vu2.length<=900:=by exact nI rfl
 have l1:=Ul (k:=1920) (by exact eJ _) hi;have l2:=Ul (k:=1920) (by exact eJ _) hj;erw [m5 (zb (vf rfl rfl rfl (by rwa[(?_:2<29),aa rfl])<|a6.of<|mX (K:=K) G1 sc (.head _) (F.vO (ab "PressError",39)<|by exact nG rfl) _ _ _ H1 λw s2 hw H2 pl=>?_) (by refine(?_:(GU.scope.kind== .module&&_)=ao);rw[sc.kind];rfl)<|kQ rfl _ _),!hw];have ca:=F.QO _ qbF (0,36)<|.head _;rw[nm0] at ca;erw [Ij ((vP F Df).there) λoc od nm' kV doc pm an ct osl OE=>?_,uf G1 ca H2 λs3 H3=>v5 (ob:=⟨oc,od,.func<|z3 nm' Ci.qual Ci.params Ci.body Ci.scope Ci.dV kV doc pm an (.ref<|36-1) ct,osl⟩) (fd:=z3 nm' Ci.qual Ci.params Ci.body Ci.scope Ci.dV kV doc pm an (.ref<|36-1) ct)<|kA (jm rfl)<|kG<|kW 0 sc H3 rfl rfl λs4 H4=>kG<|a6.of ?_,JoinedStr_many<|nH<|tX<|vl 1 sc H4 rfl rfl λs5 H5=>formatField_str (λt6 k6=>⟨?_,?_⟩) ?_]
 . rw[cv,bw];rwa[(?_:0+_<=_),‹a<=900->0+a<=16777216› hk]
 rotate_left
 . rw[bw];exact‹a<=900->a<=16777216› hk
 refine nH<|Lj ⟨?_,?_⟩
 . rw[cv,cv,bw];rwa[(?_:0+_+_<=_),‹a<=900->b<=900->0+a+b<=16777216› hk h1]
 refine B8<|nH<|tX<|vl 2 sc H5.toks rfl rfl λs6 H6=>LZ hi ⟨?_,?_⟩
 . rw[cv,cv,cv,PySem.ofString_length,bw];rwa[(?_:0+_+_+_<=_),‹a<=900->b<=900->c<=1920+1->0+a+b+c<=16777216› hk h1 l1]
 refine B8<|nH<|Lj ⟨?_,?_⟩
 . rw[cv,cv,cv,cv,PySem.ofString_length,bw];rwa[(?_:0+_+_+_+_<=_),‹a<=900->b<=900->c<=900->d<=1920+1->0+a+b+d+c<=16777216› hk h1 h2 l1]
 refine B8<|nH<|tX<|vl 3 sc H6.toks rfl rfl λs7 H7=>LZ hj ⟨?_,?_⟩
 . rw[cv,cv,cv,cv,cv,PySem.ofString_length,PySem.ofString_length,bw];rwa[(?_:0+_+_+_+_+_<=_),‹a<=900->b<=900->c<=900->d<=1920+1->e<=1920+1->0+a+b+d+c+e<=16777216› hk h1 h2 l1 l2]
 refine joinParts_nilE<|joinParts_nil ?_ ?_
 rotate_left
 . rw[cv,cv,cv,cv,cv,PySem.ofString_length,PySem.ofString_length,bw];rwa[(?_:0+_+_+_+_+_<=_),‹a<=900->b<=900->c<=900->d<=1920+1->e<=1920+1->0+a+b+d+c+e<=16777216› hk h1 h2 l1 l2]
 have H8:=H7.toks (t:=s7.toks+1+1+1);rwa[rJ ⟨⟨G1.X H8 _ _ OE,rfl⟩,eK<|JP G1 F e EH (by exact‹a<=700->a<=800› hn) (iC H8) λs9 H9=>?_⟩,m5 (kR rfl<|kW 1 sc (iC H9) rfl rfl λz H=>kW 0 sc H rfl rfl λz H=>zu G1 e (.tail _<|.head _) (by exact‹a<=700->a+1<=900› hn) (iC H) λz H=>?_),m5 (kR rfl<|kW 2 sc (iC H) rfl rfl λz H=>kW 0 sc H rfl rfl λz H=>zu G1 e (.tail _<|.tail _<|.head _) (by exact‹a<=700->a+1+1<=900› hn) (iC H) λz H=>?_),m5<|kR rfl<|kW 3 sc (iC H) rfl rfl λz H=>kW 0 sc H rfl rfl λz H=>zu G1 e (.tail _<|.tail _<|.tail _<|.head _) (by exact‹a<=700->a+1+1+1<=900› hn) (iC H) λz H=>IH<|q _ (iC H).leave]
end
section
variable{C:Cx}{A:c5}{K:qo}{s:aE}{l:List bp}{a c f n:Nat}{E:aG->aE->Prop}{env:DO}
theorem Sk(H:Sat C (yw a c n::l) s):Sat C (yk a c::l) s:=by
 erw [nn λzn=>?_,mq (wG H) λo vs t hc hd h0 h1 h=>?_];rcases h with⟨h2,H1⟩ |⟨dx,od,es,ep,h2,h3,h4,h5,h6,H1⟩<;>(refine zn ?_;clear zn)
 . exact H1.imp λg hg=>⟨o,vs,hc,hd,.inl ⟨h1,hg⟩⟩
 . exact((iC H1).drop).imp λg hg=>⟨o,vs,hc,hd,.inl ⟨h1,hg⟩⟩
theorem JQ(G:Gl C K)(e:sY K c f){Q}(hh:A.handled=aq)(H:Sat C (yw a c n::l) s)(q:Sat C (yk a c::l) s->E (.ref a) s):aC (bc C) A (uC env (ae<|cg<|.ref a) aq) Q E s:=by
 have X:=G.X H;have ob:=e.ob;refine mq (wG H) λo vs t hc hd h0 h1 h=>?_;have mO:o.cls≠ .type "frame":=by rw[hc];simp
 have he:s.heap.get? a=ae o:=by
  rcases h with⟨_,H1⟩ |⟨_,_,_,_,_,_,_,_,_,H1⟩<;>exact H1.get mO
 have hC:=X _ _ ob;have q:=q<|Sk H;have hcB:(cF c::jb).contains (.type "BaseException")=ah:=by rw[fe,show jb.contains (.type "BaseException")=ah from by decide+kernel,oI]
 have t1:dA (bc C) s.heap (nD<|.ref a) (.ref c):=by rw[<-hc];exact(fV he).andThen .now
 have t2:dA (bc C) s.heap (nD<|.ref c) (.type "type"):=(fV hC).andThen .now;have hm:dA (bc C) s.heap (xR<|.ref c) (.ref c::jb):=((fV (part:=aq) hC).andThen .now).andThen .now
 have sB:dA (bc C) s.heap (gB (.ref c)<|.type "BaseException") ah:=by
  unfold gB;exact hm.andThen (by refine(?_:dA _ _ (cg<|(cF c::jb).contains<|.type "BaseException") _);rw[hcB];exact .now)
 have iB:dA (bc C) s.heap (iH (.ref a)<|.type "BaseException") ah:=t1.andThen sB;have it:dA (bc C) s.heap (isType<|.ref a) ao:=(fV he).andThen (by rw[hd];exact .now);unfold uC;erw [pB];dsimp only;refine pB<|CK ?_;unfold excFromValue isExcClass;refine aB<|it.here ?_;rw[if_neg<|by decide];erw [au];rw[if_neg<|by decide];refine ak<|iB.here ?_;rw[if_pos rfl];refine au<|ak<|it.here ?_;rw[if_neg<|by decide];unfold raisedInstance;refine aB<|t1.here<|ak<|t2.here ?_;rw[if_pos<|by decide];refine au<|ak ?_;unfold mR;erw [Mr he hd h1];rw[if_neg<|by decide];exact au<|wpAny_raiseNew_none hh q
theorem Bl(h:a6 (bc C) A x (λv s1=>aC (bc C) A (uC env (ae<|cg v) aq) Q E s1) E s):a6 (bc C) A (uC env (ae x) aq) Q E s:=by
 unfold uC at h |-;exact mC h λv s1 h1=>a6.of h1
theorem EJ(e:sY K c f):keepIn K (.ref c)=ah:=by
 have ob:=e.ob;unfold keepIn;simp only[ob];have ht:typeIn K (.ref c)=ae (.type "type"):=by refine(?_:(K.lookup c).map _=_);rw[ob];rfl
 unfold ZO;rw[ht];refine(?_:(jY K (.type "type") "__call__"==_)=ah);rw[show jY K (.type "type") "__call__"=ae (ae<|.builtin "type.__call__") by kernel_rfl];rfl
end
end
section
variable{c:Fm}{s:aE}{v:AV}{x:bI}{t:Expr}{body:List gK}{n:Nat}{Q:La->aE->Prop}
def Pp(c:Fm)(t:Expr)(body:List gK)(Q:La->aE->Prop)(it:aG)(s:aE):Prop:=∃(n:Nat) (I:Nat->aE->Prop) (turn:Nat->aG->aE->Prop),C1 c.C c.A t n I turn (λs=>Q .next s) it s/\
 ∀i v s,i<n->turn i v s->aC (bc c.C) c.A (jq t c.env v) (λz s=>a6 (bc c.C) c.A (oB body c.env) (λf s'=>match f with
 |.next |.cont=>I (i+1) s'
 |.brk=>Q .next s'
 |.ret v=>Q (.ret v) s') c.E s) c.E s
theorem Sl(hb:SS c body)(ht:LN c.ns t=ae tg)(hx:vg c.ns c.gs nm=ah)(hn:noStar es=ah)(n:Now c R cC ω fr hp s)(hW:(WS c.p (.forR tg (Ak c.ns c.gs es)<|uh c.ns c.gs body) fr hp k).H)(q:nM c R cC k Q):
 a6 (bc c.C) c.A (exec (.For t (.Call (.Name nm p) es [] pos1) body [] pos) c.env) Q c.E s:=by
 refine aT (fj hx) λhx2 hx3=>?_;have hx2:=(fj hx2).2;have hx3:=beq_iff_eq.mp hx3;erw [JB ?_ (λx=>yu rfl x) n.r.po,af (i6 _ _ _ _ _ _)<|aK n.S.sat λl H back=>?_,bh<|vd (qual:=c.qual) (L:=c.L) (f:=c.f) (cdv:=c.cdv) (cl:=c.cl) n.r.G n.r.F n.r.sc (bk.mp hx2) (kO hx3) _ _ _ H λv s1 hv H1=>?_,!hv,jF (first:=[]) (yp (nm,kM 2)<|kO hx3) (iK hn)<|pS hn (λe z=>yS e) (n.next .rfl<|back _ H1) hW λvs ee da ws s2 n2 hk ex hv=>?_,nn λzn=>?_,Ig hk λa d m hr aH=>?_,-hk,dh aH λJ L9 turn Aa=>?_,-aH,aT n2.S λHZ aH=>?_,aK aH λqbG U9 H2=>?_,zn,-zn,-aH,a6.of<|Dd hr hv H2 λrr b tt u v s3 hs hn' H3=>Gf hs hn' H3 λit s4 H4=>?_]
 refine(Me m _ _ (Bi (cC:=⟨da,ee.length⟩) (R:=R) (It:=λi=>QY it (a+(i:Nat)*d) ((m:Int)-(i:Nat)) d) (J:=J) (CG n.r.rm.handled) (LI.start (It:=λi=>QY it (a+(i:Nat)*d) ((m:Int)-(i:Nat)) d) L9 n2.at.g ⟨HZ,qbG,U9,H4.perm kK.symm⟩) (λi l s v H hv Q E q=>by refine c4 hv λt' aH=>?_;clear hv;subst aH;exact Bk (λa e=>by contradiction) q)
  (λω fr hp s l g2 hj H b1 b2=>q .next fr hp ω .next s (Aa fr hp hj) (n2.back ⟨n2.at.r,g2,b1 _ H⟩) rfl)) ?_)
 rintro i v s hi ⟨⟨t',rfl⟩,ip,wF,fO,hj,g2,H6⟩
 exact zo hb ht ⟨n2.at.r.more,g2,H6⟩ (dz.mpr<|qI _ rfl) (turn i wF fO hi hj) (JO (It:=λi=>QY it (a+(i:Nat)*d) ((m:Int)-(i:Nat)) d) (R':=R)
  (λω fr hp s n3 h=>q .next fr hp ω .next s h (n2.back ⟨n2.at.r,n3.g,n3.S.drop⟩) rfl) λω fr hp v w s n3 hv h=>q (.ret v) fr hp ω (.ret w) s h (n2.back ⟨n2.at.r,n3.g,n3.S.drop⟩) ⟨w,rfl,hv⟩)
def WG(it a:br)(i:Nat):bp:=λg=>∃o,g=[(it,o)]/\o.cls= .type "tuple_iterator"/\o.data= .fields #[.ref a,.int i 0]
theorem JR(H:Sat C (WG it a i::l) s):∃o,Sat C (pt it o::l) s/\(o.cls= .type "tuple_iterator"/\o.data= .fields #[.ref a,.int i 0])/\s.heap.get? it=ae o:=by
 erw [nn λzn=>?_,aT H λfr aH=>?_,-H,aK aH λg cX t=>?_,-aH,dF cX λg1 g2 gW jl hg=>?_,-cX,!gW,dh jl λo oN h1 h2=>?_,zn,-zn,-jl,!oN];have H0:Sat C (pt it o::l) s:=⟨fr,_,⟨_,_,rfl,rfl,hg⟩,t⟩;exact(oK o H0 ⟨h1,h2⟩<|H0.get<|by rwa[af h1,nofun])
theorem JT(h:Vs ω xs vs):∀{i:Nat} {v:aG},vs[i]? =ae v->∃x,xs[i]? =ae x/\x.Is ω v:=by
 induction h with
 |nil=>intro i v hv;contradiction
 |cons p _ ih=>
  intro i v hv
  cases i with
  |zero=>(injection hv with hv;subst hv);exact(bV _ rfl p)
  |succ i=>exact ih hv
theorem Nv{xs:List AV}{x}(e:xs[i]? =ae x):xs.drop i=x::xs.drop (i+1):=by
 rwa[c4 (bg.mp e) λh aH=>?_,!aH,(z7 h)]
theorem Sm{ad:br}(hb:SS c body)(ht:LN c.ns t=ae tg)(n:Now c R cC ω fr hp s)(hm:(ad,Fz.tup vs)∈ω.τ)(hv:Vs ω xs vs)(hW:(UI (λx fr hp k=>JH c.p tg x fr hp λfr hp=>WS c.p (uh c.ns c.gs body) fr hp k) k xs fr hp).H)(q:nM c R cC k Q):aC (bc c.C) c.A (z0<|.ref ad) (Pp c t body Q) c.E s:=by
 have tup:∀{da:Om} {fr:Frs} {hp:List AO} {R:List bp} {s:aE},(∀p∈ω.τ,p∈da.τ)->SA c R da fr hp s->s.heap.IsTuple ad vs.toArray:=λh H=>Sat.tup (SA.tup H<|h _ hm).choose_spec;erw [wpAny_pyIter_tuple (tup (λz h=>h) n.S)]
 have H5:SA c (WG s.heap.objs.size ad 0::R) ω fr hp {s with heap:=s.heap.push {cls:=.type "tuple_iterator",data:=.fields #[.ref ad,.int 0 0]}}:=n.S.into λl Hl=>by
  have:=Hl.alloc (t:=s.toks) (o:={cls:=.type "tuple_iterator",data:=.fields #[.ref ad,.int 0 0]}) rfl;rw[bU<|not_eq_of_beq_eq_false rfl] at this;exact this.imp λg hg=>⟨_,hg,rfl,rfl⟩
 generalize s.heap.objs.size=it at H5 |-;have fX:xs.length=vs.length:=hv.length;generalize hbd:(λx fr hp k=>JH c.p tg x fr hp λfr hp=>WS c.p (uh c.ns c.gs body) fr hp k)=bd at hW;let J:Nat->Frs->List AO->Prop:=λi fr hp=>(UI bd k (xs.drop i) fr hp).H;refine⟨vs.length,LI c R ⟨ω,hp.length⟩ J<|WG it ad,λi v s=>vs[i]? =ae v/\∃da fr hp',J i fr hp'/\Agree hp.length ω da/\SA c (WG it ad (i+1)::R) da fr hp' s,⟨⟨ω,fr,hp,hW,n.at.g,H5⟩,λi s Q E hi h q=>?_,λs Q' E h q'=>?_⟩,?_⟩
 . refine xn h λda fr ee hj g H=>?_;clear h
   have htp:=tup g.tups H.drop;erw [nn λzn=>?_,dh H.out λl H1 b1 b2=>?_,dh (JR H1) λo H2 aH ho=>?_,aT aH λhc hd=>?_,-aH];obtain⟨v,ev⟩:∃v,vs[i]? =ae v:=⟨vs[i],by exact aI<|by assumption⟩;erw [zn,-zn,wpAny_pyNext_tuple_item ⟨o,ho,hc,hd⟩ htp (by simpa using ev) λh' OG hs=>?_,dh (id OG) λo' e' c' d'=>?_];have H3:=H2.set (t:=s.toks) hs e'<|.inr ⟨_,hd⟩;rw[bU<|by rwa[af c',nofun]] at H3;exact q _ _ (λQ E q=>qaH OG q) ⟨ev,da,fr,ee,hj,g,b1 _ _<|H3.imp λg hg=>⟨o',hg,c',d'⟩⟩
 . refine xn h λda fr ee hj g H=>?_;clear h
   have htp:=tup g.tups H.drop;erw [nn λzn=>?_,dh H.out λl H1 b1 b2=>?_,dh (JR H1) λo H2 aH ho=>?_,aT aH λhc hd=>?_,zn,-zn,-aH]
   have hj:(k .next fr ee).H:=by
    have:xs.drop vs.length=[]:=List.drop_eq_nil_of_le<|jt fX;rwa[(?_:(UI bd k [] fr ee).H),dq this,hj]
   exact wpAny_pyNext_tuple_end n.r.rm.handled ⟨o,ho,hc,hd⟩ htp (by simp) λh' he=>q' _<|q .next fr ee da .next _ hj (n.back ⟨n.at.r,g,b2 _<|H2.lose ⟨_,hd⟩ he (t:=s.toks)⟩) rfl
 . rintro i v s hi ⟨ev,ip,wF,fO,hj,g2,H6⟩
   refine aK (JT hv ev) λx ex hx=>?_;have hj:(UI bd k (x::xs.drop (i+1)) wF fO).H:=by rwa[dq (Nv ex),hj]
   subst hbd
   exact zo hb ht ⟨n.at.r.more,g2,H6⟩ (AV.Is.ext (n.ex g2) hx) hj (Sb (It:=WG it ad) (J:=J) (λz z h=>h)
    (λω fr hp s n3 h=>q .next fr hp ω .next s h (n.back ⟨n.at.r,n3.g,n3.S.drop⟩) rfl) λω fr hp v w s n3 hv h=>q (.ret v) fr hp ω (.ret w) s h (n.back ⟨n.at.r,n3.g,n3.S.drop⟩) ⟨w,rfl,hv⟩)
theorem yx(h:(ui r xs fr hp kk).H):hp[r]? =ae .gone/\(kk fr<|hp.set r<|.lst xs).H:=by
 rwa[aK (bX h) λo e h=>?_,aT (wB h) λaH h=>?_,!aH,⟨e,h⟩]
theorem Sn{ad:br}{J:Nat->Frs->List AO->Prop}(hb:SS c body)(ht:LN c.ns t=ae tg)(n:Now c R cC ω fr hp s)(ea:ω.ρ[rr]? =ae ad)(eob:hp[rr]? =ae (.lst xs))(L9:JS (hp.set rr .gone).length fr (hp.set rr .gone) (J 0))(turn:∀i fr hp' x,xs[i]? =ae x->J i fr hp'->(JH c.p tg x fr hp' λfr hp'=>WS c.p (uh c.ns c.gs body) fr hp'<|wC hp.length (J<|i+1) (λfr hp=>ui rr xs fr hp<|k .next) λv fr hp=>ui rr xs fr hp<|k<|.ret v).H)(Aa:∀fr hp,J xs.length fr hp->(ui rr xs fr hp<|k .next).H)(q:nM c R cC k Q):aC (bc c.C) c.A (z0<|.ref ad) (Pp c t body Q) c.E s:=by
 erw [nn λzn=>?_,aK (n.S.take eob) λEu dU aH=>?_,aK aH λl H1 put=>?_,-aH];rw[ea] at dU;injection dU with dU;subst dU
 erw [c4 (Sat.ex.mp H1) λvs H2=>(aT (Sat.pure.mp H2) λhv H2=>?_),zn,-zn];have fX:xs.length=vs.length:=hv.length;have hr:rr<hp.length:=(bg.mp eob).1
 have back:∀{ip:Om} {wF:Frs} {fO:List AO} {s:aE} {kk:Frs->List AO->VC},Agree hp.length ω ip->SA c (jJ ad vs::R) ip wF fO s->(ui rr xs wF fO kk).H->(kk wF<|fO.set rr<|.lst xs).H/\Now c R cC ip wF (fO.set rr<|.lst xs) s:=λg H hk=>
  ⟨(yx hk).2,n.back ⟨n.at.r,g,H.give (yx hk).1 (by refine af (g.same rr hr) ?_;exact ea) λg' hg=>⟨vs,hv.ext<|n.ex g,hg⟩⟩⟩
 have lose:∀{ip:Om} {wF:Frs} {fO:List AO} {s:aE} {it:br} {i:Nat},SA c (vS it ad vs i::R) ip wF fO s->SA c (jJ ad vs::R) ip wF fO s:=λH=>by
  exact dh H.out λl2 H3 b1 b2=>(b1 _ _ ((iC<|Sat.unpack.mp H3).perm<|.swap ..).drop)
 erw [vT H2 λit s3 H3=>?_,⟨vs.length,_,_,Bi (It:=vS it ad vs) (cC:=⟨ω,hp.length⟩) (J:=J) (R:=R) (mx n.r.rm.handled) (LI.start (cC:=⟨ω,hp.length⟩) (It:=vS it ad vs) (by rw[cG] at L9;exact L9) n.at.g<|put _ _ H3) (λi l s v H hv Q E q=>?_) λda fr hp s l g2 hj H b1 b2=>?_,?_⟩]
 . refine nn λzn=>?_;refine aT (Sat.unpack.mp H) λfr aH=>?_;refine aK aH λg cX tt=>?_;clear aH;refine dF cX λg1 g2 gW jl hg=>?_;clear cX;subst gW;refine dh jl λo oN h1 h2=>?_;refine zn ?_;clear zn;clear jl;subst oN
   have H0:Sat c.C (pt it o::jJ ad vs::l) s:=⟨fr,_,⟨_,_,rfl,rfl,hg⟩,tt⟩;exact Bj (H0.get<|by rwa[af h1,nofun]) h1 h2 (by rfl) q
 . refine aT (back g2 (b2 _ _ H)<|Aa fr hp<|fX▸hj) λh1 h2=>?_
   exact q .next _ _ _ .next s h1 h2 rfl
 . rintro i v s hi ⟨ev,ip,wF,fO,hj,g2,H6⟩
   erw [aK (JT hv ev) λx ex hx=>?_,zo hb ht ⟨n.at.r.more,g2,H6⟩ (AV.Is.ext (n.ex g2) hx) (turn i wF fO x ex hj)<|JO (It:=vS it ad vs) (R':=R) (λω fr hp s n3 h=>?_) λω fr hp v w s n3 hv h=>?_]
   . refine aT (back n3.g (lose n3.S) h) λh1 h2=>?_
     exact q .next _ _ _ .next _ h1 h2 rfl
   . refine aT (back n3.g (lose n3.S) h) λh1 h2=>?_
     exact q (.ret v) _ _ _ (.ret w) _ h1 h2 ⟨w,rfl,hv⟩
theorem JU(hb:SS c body)(ht:LN c.ns t=ae tg)(hs:vH e=ao)(n:Now c R cC ω fr hp s)(hW:(WS c.p (.forL tg (tr c.ns c.gs e)<|uh c.ns c.gs body) fr hp k).H)(q:nM c R cC k Q):
 a6 (bc c.C) c.A (exec (.For t e body [] pos) c.env) Q c.E s:=JB ((yS _).v n hW λv ee da w s1 hk ex hv H=>by
 cases v with
 |tup xs=>
  (apply i3 hv;intro ad vs hm HW)
  exact Sm hb ht (n.next ex H) hm HW hk q
 |ref rr=>
  (apply eM hv;intro ad ea)
  rwa[nn λzn=>?_,aK (bX hk) λob eob mf=>?_,aK (tB mf) λxs aH cX=>?_,!aH,dh cX λJ L9 turn Aa=>?_,zn,-zn,-cX,Sn hb ht (n.next ex H) ea eob L9 turn Aa q]
 |_=>exact hk.elim) (λx=>yu hs x) n.r.po
theorem uk(h:vh e=ae r):∃p p1,e= .Call (.Name r.1 p) r.2.1 r.2.2 p1:=by
 rwa[nn λzn=>?_,aK (ez.mp h) λq h1 h=>?_,aK (c9.mp h) λn h2 aH=>?_,zn,-zn,!aH,af (vG h1)<|af (gG h2) ?_,(Cr _ _ rfl)]
theorem WH(hb:SS c body):C6 c (.For t e body orelse pos):=λ{R cC ω fr hp s k Q} n hW q=>by
 erw [nn λzn=>?_,aT (r5<|show(WS c.p (Bf (r4 orelse&& !vH e)<|wx (LN c.ns t) λt=>JF c.ns c.gs t e (Ak c.ns c.gs)<|uh c.ns c.gs body) fr hp k).H from hW) λho Au=>?_,aK (pT Au) λtg ht LQ=>(aT (fj ho) λh1 h2=>?_),zn,-zn];have h2:vH e=ao:=by simpa using h2
 cases orelse with
 |cons=>contradiction
 |nil=>
  unfold JF at LQ
  cases hr:vh e with
  |none=>rw[hr] at LQ;exact JU hb ht h2 n LQ q
  |some r=>
   rw[hr] at LQ;have Po:(WS c.p (Wo (vg c.ns c.gs r.1) (Bf (r.2.2.isEmpty&&noStar r.2.1&&decide (r.2.1.length<29))<|.forR tg (Ak c.ns c.gs r.2.1)<|uh c.ns c.gs body)<|.forL tg (tr c.ns c.gs e)<|uh c.ns c.gs body) fr hp k).H:=LQ
   cases hi:vg c.ns c.gs r.1 with
   |false=>rw[hi] at Po;exact JU hb ht h2 n Po q
   |true=>
    rw[hi] at Po;erw [nn λzn=>?_,aT (r5 Po) λhc hW5=>?_];obtain⟨hk,hn,-⟩:=kP hc;rwa[vF (uk hr) λp p1 aH=>?_,zn,-zn,!aH,af hk<|Sl hb ht hi hn n hW5 q]
theorem Dg(h:RZ c.ns c.gs a= .bad):C6 c a:=λn hW q=>by rw[h] at hW;exact hW.elim
def GV(cc:Nat)(ws:List aG):Prop:=(cc=100/\∃x t,x.length<=900/\ws=[.str x t])\/(cc=138/\∃x i j t1 t2 t3,x.length<=900/\i.natAbs.log2<1920/\j.natAbs.log2<1920/\ws=[.str x t1,.int i t2,.int j t3])
theorem JV(h:(Wv cc vs k).H)(hv:Vs ω vs ws):k.H/\GV cc ws:=by
 erw [mG h λv r q g1=>?_,!q,F2.ec (p:=λws=>k.H/\GV cc ws) hv λw ws p hv1=>?_,Er g1 λx q g2=>?_,!q]
 (apply kN p;intro t)
 cases r with
 |nil=>
  exact jA g2 λh1 h2=>(F2.en (p:=λws=>k.H/\GV cc (_::ws)) hv1<|⟨h2,.inl ⟨bK (fj h1).1,x,t,aa (fj h1).2,rfl⟩⟩)
 |cons i r=>
  erw [jA g2 λh1 g3=>?_,ve g3 λi q g4=>?_,!q,F2.ec (p:=λws=>k.H/\GV cc (_::ws)) hv1 λw ws p t8=>?_]
  (apply cx p;intro t2)
  erw [mG g4 λj r q g5=>?_,!q,ve g5 λj q g6=>?_,!q,F2.ec (p:=λws=>k.H/\GV cc (_::_::ws)) t8 λw ws p Wi=>?_]
  (apply cx p;intro t3)
  rwa[rQ g6 λq g7=>?_,!q,F2.en (p:=λws=>k.H/\GV cc (_::_::_::ws)) Wi<|⟨g7.2,.inr ⟨bK (fj h1).1,x,i,j,t,t2,t3,aa (fj h1).2,g7.1.1,g7.1.2,rfl⟩⟩]
theorem Nw:C6 c (.Raise a b pos):=λ{R cC ω fr hp s k Q} n hW q=>by
 have hW:(WS c.p (FY c.ns c.gs a b) fr hp k).H:=hW
 cases a with
 |none=>exact hW.elim
 |some e=>
  cases b with
  |some _=>exact hW.elim
  |none=>
   erw [nn λzn=>?_,aK (pT hW) λr e1 hW=>?_,aK (pT hW) λcc e2 hW=>(aT (r5 hW) λhc Po=>?_),vF (uk e1) λp p1 aH=>?_,zn,-zn,!aH,nn λzn=>?_,aT (fj hc) λhg hc=>?_,lE (kP hc) λhk hn hl=>?_,zn,-zn,af hk,af (arm_exec_Raise _ _ _ _),ou<|Bl<|aR ?_,af (i6 _ _ _ _ _ _)<|aK n.S.sat λl H back=>?_,bh<|mX (qual:=c.qual) (L:=c.L) (f:=c.f) (cdv:=c.cdv) (cl:=c.cl) n.r.G n.r.sc (bk.mp (fj hg).1) (n.r.F.vO _<|gi e2) _ _ _ H λv s1 hv H1=>?_,!hv,qU (iK hn)<|pS hn (λe z=>yS e) (n.next .rfl<|back _ H1) Po λvs ee da ws s2 n2 hk ex hv=>?_,nn λzn=>?_,aT (kj hk) λh8 hk=>?_,aT (JV hk hv) λhX hws=>?_,aT n2.S λHZ aH=>?_,aK aH λyR U9 H2=>?_,-aH];obtain⟨mm,em⟩:∃mm,c.p.N=mm+3:=⟨c.p.N-3,by have:=aa h8;omega⟩;erw [zn,-zn];have rm:=n.r.rm;rw[em] at rm
   have fin:∀{f nn} (ek:sY c.K cc f) {x s3},Sat c.C (yw x cc nn::(ml c.L c.ns yR::(dR da da.ρ ee++(tups da.τ++R)))) s3->DT x (oR (λv s₂=>a6 (bc c.C) c.A (mL pos>>=λz=>cg v) (λv s1=>aC (bc c.C) c.A (uC c.env (ae<|cg v) aq) Q c.E s1) c.E s₂) c.E) (.ok<|.ret .none) s3:=λ{f nn} ek {x s3} H3=>
    ⟨rfl,ou<|aY<|JQ n.r.G ek n.r.rm.handled H3 λH4=>n.r.hX cc ee da x s3 hX n2.g HZ (iC H4).drop⟩
   rcases hws with⟨rfl,x,t,hx,rfl⟩ |⟨rfl,x,i,j,t1,t2,t3,hx,hi,hj,rfl⟩
   . have ek:=n.r.F.yY.1
     exact⟨Ui (EJ ek)<|n.r.G.X H2,eK<|EF n.r.G ek H2 (by rwa[(?_:1<=lJ),af bw,‹1<=16777216›]) λx s3 H3=>JP n.r.G n.r.F ek rm.CN (‹0<=800›) H3 λs4 H4=>fin ek H4⟩
   . have ek:=n.r.F.yY.2
     exact⟨Ui (EJ ek)<|n.r.G.X H2,eK<|EF n.r.G ek H2 (by rwa[(?_:3<=lJ),af bw,‹3<=16777216›]) λx s3 H3=>Nu n.r.G n.r.F ek rm.CN hx hi hj (‹0<=700›) H3 λs4 H4=>fin ek H4⟩
end
mutual
theorem ss1:∀(a:gK),C6 c a
 |.Assign ts e _=>(match ts with
  |[t]=>Wx
  |[]=>Dg rfl
  |_::_::_=>Dg rfl)
 |.AugAssign t op e _=>Wy
 |.Expr e _=>R8
 |.Return e _=>(match e with
  |some e=>Wz
  |none=>R9)
 |.If t a b _=>qbD (ss a)<|ss b
 |.While t b o _=>Nn<|ss b
 |.For t e b o _=>WH<|ss b
 |.Break _=>WA
 |.Continue _=>WB
 |.Pass _=>Sa
 |.Raise e c _=>Nw
 |.FunctionDef .. |.AsyncFunctionDef .. |.ClassDef .. |.Delete .. |.TypeAlias .. |.AnnAssign .. |.AsyncFor .. |.With .. |.AsyncWith .. |.Match .. |.Try .. |.TryStar .. |.Assert .. |.Import .. |.ImportFrom .. |.Global .. |.Nonlocal .. =>Dg rfl
theorem ss:∀(a:List gK),SS c a
 |[]=>R5
 |a::as=>Nk (ss1 a)<|ss as
end
section
variable{C:Cx}{s:aE}{L c:br}
theorem Sat.slots(H:Sat C l s)(hs:Heap.SlotsOnly S s.heap h')(hS:∀L∈S,L∈C.live):Sat C l {s with heap:=h'}:=by
 erw [nn λzn=>?_,aT H λf aH=>?_,-H,aK aH λg hg th=>?_,zn,-zn,-aH]
 have key:∀b o,s.heap.get? b=ae o->∃o',h'.get? b=ae o'/\norm o'=norm o/\(ky o->ky o')/\o'.cls=o.cls:=λb o e=>by
  by_cases hb:b∈S
  . refine nn λzn=>?_;obtain⟨-,o2,e2,n2,c2⟩:=f.live b (hS b hb)
    rw[e] at e2;injection e2 with e2;subst e2
    rwa[c4 (hs.2.2 b o e) λsl e3=>?_,zn,-zn,(Ib _ e3 (by unfold norm;simp[c2]) (λhn=>hn) rfl)]
  . exact(Ib o ((hs.2.1 b hb).trans e) rfl (λh=>h) rfl)
 refine⟨⟨λb o e=>?_,f.gens,f.drawn,f.os,λL hL=>?_⟩,g,hg,th.nodup,λx hx=>?_,th.new⟩
 . refine(hs.2.1 b λhb=>?_).trans (f.stays b o e)
   have:=(f.live b<|hS b hb).1;rw[e] at this;contradiction
 . refine nn λzn=>?_;refine aT (f.live L hL) λb aH=>?_;refine dh aH λo e n c=>?_;clear aH
   obtain⟨o',e',-,n',c'⟩:=key _ _ e;rwa[zn,-zn,⟨b,o',e',n' n,c'.trans c⟩]
 . refine nn λzn=>?_;refine aK (th.at_ x hx) λo e n=>?_
   obtain⟨o',e',n',-⟩:=key _ _ e;rwa[zn,-zn,(bV o' e'<|n'.trans n)]
theorem GW(H:Sat C l s){l}:(∀e∈l,e.scope.kind≠ .module/\∃L∈C.live,e.frame=ae L)->s.heap.FunFrames C.base l:=by
 induction l with
 |nil=>
  intro _;exact trivial
 |cons e r ih=>
  intro h;refine nn λzn=>?_;obtain⟨f,-⟩:=id H;erw [aT (h e<|.head _) λh1 aH=>?_,aK aH λL hL he=>?_,-aH];obtain⟨b,o,e1,n,-⟩:=f.live L hL;rwa[zn,-zn,⟨h1,(F5 L o he b e1 n),ih λe he=>h e<|.tail _ he⟩]
theorem Bm(Cq:A.frames=ae (env::outer))(hl:∀e∈env::outer,e.scope.kind≠ .module/\∃L∈C.live,e.frame=ae L)(hf:env.frame=ae L)(H:Sat C (pt a o::l) s)(hc:o.cls= .ref c)(hd:o.data= .fields vs)(HX:1<vs.size)(q:∀s',Sat C (yk a c::l) s'->Q () s'):
 aC M A (do let fr<-frameOf env;let pl<-entryPlaceOf L qaI;let b<-z8 head fr .none (fC L) .none pl;setField (.ref a) 1 b) (λz s'=>aC M A (mR (.ref a) aq) Q E s') E s:=by
 refine ak<|wpAny_frameOf_fun Cq (GW H hl) hf λh₁ qab=>?_
 have H1:=H.slots qab λL' hL'=>by
  refine aK (List.mem_filterMap.mp hL') λe he e2=>?_;obtain⟨-,L2,hL2,e3⟩:=hl e he;rw[e2] at e3;(injection e3 with e3;subst e3);exact hL2
 refine ak<|wpAny_entryPlaceOf λpl oy=>?_;delta z8 newFields;refine ak<|j0 ?_<|oy.sizeOk5 _ _ _ _ _;generalize ht:({cls:=.type "traceback",dict:=aq,data:=.fields ([head,.ref L,.none,fC L,.none]++(if pl.isEmpty then aS 6 eZ else pl)).toArray}:fy)=ot;have hot:ot.data= .fields ([head,.ref L,.none,fC L,.none]++(if pl.isEmpty then aS 6 eZ else pl)).toArray:=by(first |exact ht.symm |exact congrArg _ ht.symm |exact dq ht rfl)
 have L7:ot.cls= .type "traceback":=by(first |exact ht.symm |exact congrArg _ ht.symm |exact dq ht rfl)
 have H2:=H1.alloc (o:=ot) (t:=s.toks) (by erw [dq ht];rfl);rw[bU<|by rwa[af L7,nofun]] at H2;have mO:o.cls≠ .type "frame":=by rwa[af hc,nofun]
 have ea:=(iC H2).get mO;erw [j7 ea hd HX];have xf:=i7 hd (·.setIfInBounds 1<|cF h₁.objs.size);have FZ:=bj (eW (·.setIfInBounds 1<|cF h₁.objs.size)) ea<|gL xf;have H3:=(iC H2).set (t:=s.toks) (bu _ a _) FZ<|.inr<|qI _ hd;have Uy:(eW (·.setIfInBounds 1<|cF h₁.objs.size) o).cls= .ref c:=(eB _ _).trans hc;rw[bU<|by rwa[af Uy,nofun]] at H3;delta mR;erw [Mr FZ xf (x:=.ref h₁.objs.size) (qd HX) ?_,af (if_pos<|show(cF h₁.objs.size !=eZ)=ah from by rfl)];have eT:=(iC H3).get (by rwa[af L7,nofun]);refine j7 eT hot (by simp only[a9,aj,bQ,List.length_nil]<;>(exact‹3<0+1+1+1+1+1+a›))<|q _ ?_;have Ia:=i7 hot (·.setIfInBounds 3<|(aq:Option br).elim eZ λf=>fC f);have heT:=bj (eW (·.setIfInBounds 3<|(aq:Option br).elim eZ λf=>fC f)) eT<|gL Ia;have H4:=(iC H3).set (t:=s.toks) (bu _ _ _) heT<|.inr<|qI _ hot;rw[bU<|by rwa[af (eB _ _)<|af L7 ?_,nofun]] at H4;have H5:=(Sat.unpack (l:=[_,_])).mpr<|iC H4;erw [H5.imp λg hg=>?_,dF hg λg1 g2 aH cX gW=>?_,-hg,!aH,!cX,dF gW λg3 g4 jl oN Sh=>?_,-gW,!jl,!oN,!Sh];exact⟨_,_,Uy,xf,.inr<|QB _ _ _ (qd HX) ⟨by exact af (eB _ _)<|af L7 rfl,Ia⟩ (aa rfl) rfl⟩
theorem Dh(H:Sat C (yk a c::l) s):∃o vs,o.cls= .ref c/\o.data= .fields vs/\((vs[1]? =ae .none/\Sat C (pt a o::l) s)\/∃tb ot tvs,vs[1]? =ae (.ref tb)/\(ot.cls= .type "traceback"/\ot.data= .fields tvs)/\3<tvs.size/\Sat C (pt a o::pt tb ot::l) s):=by
 erw [nn λzn=>?_,aT H λf aH=>?_,-H,aK aH λg cX th=>?_,-aH,dF cX λg1 g2 gW jl hg=>?_,-cX,!gW,dF jl λo vs hc hd h=>?_,zn,-zn,-jl,(qJ o vs hc hd ?_)];rcases h with⟨h1,rfl⟩ |⟨tb,ot,tvs,h1,h2,h3,rfl⟩
 . exact .inl ⟨h1,f,_,⟨_,_,rfl,rfl,hg⟩,th⟩
 . exact .inr ⟨tb,ot,tvs,h1,h2,h3,f,_,⟨[_],_,rfl,rfl,[_],_,rfl,rfl,hg⟩,th⟩
theorem ph{A:c5}{M:HO}{env:DO}{outer:List DO}{a:br}{l:List bp}{E:aG->aE->Prop}{Q:Unit->aE->Prop}(Cq:A.frames=ae (env::outer))(hl:∀e∈env::outer,e.scope.kind≠ .module/\∃L∈C.live,e.frame=ae L)(hf:env.frame=ae L)(H:Sat C (yk a c::l) s)(q:∀s',Sat C (yk a c::l) s'->Q () s'):aC M A (leaving env<|.ref a) Q E s:=by
 refine dF (Dh H) λo vs hc hd h=>?_;have mO:o.cls≠ .type "frame":=by rwa[af hc,nofun]
 delta leaving qu;simp only[hf];rcases h with⟨h1,H1⟩ |⟨tb,ot,tvs,h1,⟨So,Ia⟩,h3,H1⟩
 . refine aB (oF (H1.get mO) hd h1 ?_)
   erw [af (if_neg<|nofun)];exact Bm Cq hl hf H1 hc hd (lM.mp h1).1 q
 . refine aB (oF (H1.get mO) hd h1 ?_)
   erw [af (if_pos<|show(cF tb !=eZ)=ah from by rfl)];have eT:=(iC H1).get (by rwa[af So,nofun]);obtain⟨x,hx⟩:∃x,tvs[3]? =ae x:=(qI (tvs[3])<|by simp[h3]);have LK:=i7 Ia (·.setIfInBounds 3 eZ);have heT:=bj (eW (·.setIfInBounds 3 eZ)) eT<|gL LK;have H4:=(iC H1).set (t:=s.toks) (bu _ _ _) heT<|.inr<|qI _ Ia;rw[bU<|by rwa[af (eB _ _)<|af So ?_,nofun]] at H4;erw [Mr eT Ia hx]
   split
   . refine au ?_
     delta mR;rwa[Mr (H1.get mO) hd h1 (af (if_pos<|show(cF tb !=eZ)=ah from by rfl) ?_),j7 eT Ia h3<|q _ ?_,Sat.imp ((Sat.unpack (l:=[_,_])).mpr<|iC H4) λg hg=>?_,dF hg λg1 g2 aH cX gW=>?_,-hg,!aH,!cX,dF gW λg3 g4 jl oN Sh=>?_,-gW,!jl,!oN,!Sh,⟨_,_,hc,hd,.inr<|QB _ _ _ h1 ⟨by exact af (eB _ _)<|af So rfl,LK⟩ (by simpa using h3) rfl⟩]
   . refine ak (j7 eT Ia h3 ?_)
     exact Bm Cq hl hf H4.drop hc hd (lM.mp h1).1 q
end
def Pos(f k:Nat)(d:DE):Prop:=∀{C:Cx} {K:qo} {s:aE} {l:List bp},Gl C K->KF K->Sat C l s->∀vs:List aG,vs.length=k->∀name kV doc pm an ct,U1 s (z3 name d.qual d.params d.body d.scope d.dV kV doc pm an (.ref<|f-1) ct) ⟨vs,[]⟩<|(d.ns.take k).zip vs
def Binds(f:Nat)(args qh:List AV)(d:DE):Prop:=∀{C:Cx} {K:qo} {s:aE} {l:List bp} {ω:Om} {vs:List aG},Gl C K->KF K->Sat C l s->Vs ω args vs->∃more,Vs ω qh more/\
 ∀name kV doc pm an ct,U1 s (z3 name d.qual d.params d.body d.scope d.dV kV doc pm an (.ref<|f-1) ct) ⟨vs,[]⟩<|(d.ns.take<|args.length+qh.length).zip<|vs++more
theorem Pos.binds(h:Pos f k d)(e:args.length=k):Binds f args [] d:=λG F H hv=>(bV [] .nil (λname kV doc pm an ct=>by
 have:=h G F H _ (by exact dq hv.length<|af e rfl) name kV doc pm an ct
 simpa[e] using this))
noncomputable def xH(args:List AV)(ns:List bI):List (Option AV):=args.map ae++(ns.drop args.length).map λz=>aq
theorem vm{α:Type}{β:Type}:∀{l:List α} {m:List β},l.length=m.length->(l.zip m).map (·.1)=l
 |[],[],_=>rfl
 |[],_::_,h=>by contradiction
 |_::_,[],h=>by contradiction
 |a::l,b::m,h=>by rw[sU,bW,vm<|by simpa using h]
theorem r6{α:Type}{β:Type}:∀{l:List α} {m:List β},l.length=m.length->(l.zip m).map (·.2)=m
 |[],[],_=>rfl
 |[],_::_,h=>by contradiction
 |_::_,[],h=>by contradiction
 |a::l,b::m,h=>by rw[sU,bW,r6<|by simpa using h]
theorem Bn(h:Vs ω as ws):A3 ω (as.map ae) (ws.map ae):=by
 induction h with
 |nil=>exact .nil
 |cons p _ ih=>exact .cons p ih
theorem r7:∀{r:List bI},A3 ω (r.map λz=>aq) (iz r)
 |[]=>.nil
 |_::_=>.cons trivial r7
noncomputable def Nx:Fl->AV
 |.ret v=>v
 |_=>.none
noncomputable def pm0(n:Nat)(X:Nat->List AO->VC):Pm:=⟨n,X,[],ao,λz z z z=>.ff⟩
def kX(n:Nat)(is:IS)(fr:Frs)(hp:List AO)(post:AR->List AO->Prop):VC:=WS (pm0 n λc hp'=>.nd (post (.exc c) hp') .tt) is fr hp λfl z hp'=>.nd (post (.ret<|Nx fl) hp') .tt
theorem LV.JX{hp}(hd:qP f=ae d)(hb:Binds f args qh d)(hl:args.length+qh.length<=d.ns.length)(hS:uh d.ns d.gs d.body=is)(hw:(kX n is (xH (args++qh) d.ns) hp post).H):LV (n+1) f m args hp post:=by
 constructor;intro C A K G F rm ω vs R s Rr hv hm fX H q1 q2;erw [aK (hb G F H hv) λmore Ce pM=>?_,aT (kF hd) λAe aH=>?_,!aH];have sc:=AB d Ae
 have Sp:(d.ns.take<|args.length+qh.length).length=(vs++more).length:=by
  refine af cA<|af aj<|dq hv.length<|dq Ce.length ?_;lia
 erw [jy (ns:=d.ns) (gs:=d.gs) (rest:=d.ns.drop<|args.length+qh.length) G (vP F hd) rm sc pM (by exact af (vm Sp)<|af (dn _ _) rfl) rfl H λL s1 H1 EH G1=>?_,!hS,aK rm.frames λl0 Cq sM=>?_]
 have Af:A3 ω (xH (args++qh) d.ns) (start ((d.ns.take<|args.length+qh.length).zip<|vs++more)<|d.ns.drop<|args.length+qh.length):=by
  have e1:start ((d.ns.take<|args.length+qh.length).zip<|vs++more) (d.ns.drop<|args.length+qh.length)=(vs++more).map ae++(d.ns.drop<|args.length+qh.length).map λu=>aq:=by
   unfold start;refine dq (r6 Sp)<|af uD<|af (r6 Sp) ?_;rfl
  erw [af e1];unfold xH;rwa[af aj,F2.append (Bn<|F2.append hv Ce) r7]
 let c:Fm:=⟨C.push L,A.deeper<|eo d.qual d.scope L d.f (.ref<|d.f-1) [],K,pm0 n λc hp'=>.nd (post (.exc c) hp') .tt,d.scope,d.ns,d.gs,d.qual,L,d.f,.ref<|d.f-1,[],
  λe s'=>aC (bx (C.push L).prog (C.push L).w) (A.deeper<|eo d.qual d.scope L d.f (.ref<|d.f-1) []) (leaving (eo d.qual d.scope L d.f (.ref<|d.f-1) []) e) (λu lP=>Rr (.error e) lP) (λe' lP=>Rr (.error e') lP) s'⟩
 have r:Rn c R ⟨ω,m⟩:=⟨G1,F,EH,sc,(by exact PassesOwn.leaving),λx i e=>(by contradiction),λu u u h=>h.elim,λx hp' bb a s' h1 ag h3 H'=>
  ph (L:=L) (fz Cq) (λenv he=>by
   rcases aV.mp he with rfl |q
   . exact⟨by refine af (show(eo d.qual d.scope L d.f (.ref<|d.f-1) []).scope.kind=d.scope.kind from rfl)<|af sc.kind ?_;decide,L,.head _,rfl⟩
   . refine aT (sM env q) λx aH=>?_;refine aK aH λL' y z=>?_;clear aH
     exact⟨x,L',.tail _ y,z⟩) rfl H' λlP Mu=>q2 x hp' bb a lP h1.1 ag h3 Mu.pop⟩
 exact ss (c:=c) d.body (R:=R) ⟨r,.refl (by refine af fX ?_;exact hm),fX,_,Af,H1⟩ hw λfl fr' hp' bb f' s' hk n' hf=>by
  obtain⟨jk,vs',-,H'⟩:=n'.S;have q3:=λw hw=>q1 (Nx fl) hp' bb w s' hk.1 n'.g jk hw H'.leave
  cases fl with
  |ret v=>rwa[aK hf λw aH hw=>?_,-hf,!aH,q3 w hw]
  |_=>rwa[!hf,q3 .none<|fK.mpr rfl]
theorem LV.enter{hp}(hd:qP f=ae d)(hb:Pos f args.length d)(hl:args.length<=d.ns.length)(hS:uh d.ns d.gs d.body=is)(hw:(kX n is (xH args d.ns) hp post).H):LV (n+1) f m args hp post:=
 LV.JX (qh:=[]) hd (hb.binds rfl) hl hS (by refine af (bD _) ?_;exact hw)
noncomputable def r8(j:Nat):DE:=(dT[j]?).getD ⟨0,default,aq,0,.none,[],[]⟩
structure Dk(f k r:Nat)(is:IS):Prop where
 ex:∃d,qP f=some d/\Pos f k d/\d.ns.length=k+r/\uh d.ns d.gs d.body=is
theorem zv(e:args.length=k)(h:ns.length=k+r):xH args ns=args.map ae++aS r aq:=by
 unfold xH
 congr 1
 refine af List.map_const'<|af jI<|af e<|af h ?_;congr 1;exact‹a+b=b+c->a=c› (ay<|aU _ _)
theorem Dk.enter(h:Dk f k r is)(e:args.length=k)(hw:(kX n is (args.map ae++aS r aq) hp post).H):LV (n+1) f m args hp post:=by
 rwa[yW h.ex λd h1 h2 h3 h4=>?_,!e,LV.enter h1 h2 (by lia) h4<|by rwa[af (zv rfl h3),hw]]
section
variable{f:Nat}{d:DE}
def Sq:Nat->(List aG->Prop)->Prop
 |0,P=>P []
 |n+1,P=>∀a,Sq n λl=>P<|a::l
theorem GX(n:Nat):∀{P:List aG->Prop},Sq n P->∀vs:List aG,vs.length=n->P vs:=by
 induction n with
 |zero=>intro P h vs e;rwa[af (d9 e),h]
 |succ n ih=>exact λh vs e=>vs.rec (motive:=λvs=>vs.length=n+1->_) (λe=>nomatch e) (λa l z e=>ih (h a) l<|gN e) e
noncomputable def bL(f:Nat)(d:DE)(vs:List aG)(name:bI)(kV:aG)(doc:aG)(pm:aG)(an:Option br)(ct:aG):qD (List<|bI×aG):=qv (z3 name d.qual d.params d.body d.scope d.dV kV doc pm an (.ref<|f-1) ct) ⟨vs,[]⟩
noncomputable def bR(k:Nat)(d:DE)(vs:List aG)(name:bI)(kV:aG)(doc:aG)(pm:aG)(an:Option br)(ct:aG):qD (List<|bI×aG):=cg<|(d.ns.take k).zip vs
noncomputable def CT(β:Type):Nat->Type
 |0=>β
 |n+1=>aG->CT β n
noncomputable def cur{β:Type}:(n:Nat)->(List aG->β)->CT β n
 |0,F=>F []
 |n+1,F=>λa=>cur n λl=>F<|a::l
theorem Ny(n:Nat):∀{F G:List aG->β},cur n F=cur n G->∀vs:List aG,vs.length=n->F vs=G vs:=by
 induction n with
 |zero=>intro F G h vs e;rwa[af (d9 e),h]
 |succ n ih=>exact λh vs e=>vs.rec (motive:=λvs=>vs.length=n+1->_=_) (λe=>nomatch e) (λa l z e=>ih (congrFun h a) l<|gN e) e
noncomputable abbrev BT6:=bI->aG->aG->aG->Option br->aG->qD (List<|bI×aG)
abbrev DkT(k:Nat):=Option DE×Nat×IS×CT BT6 k
def dkL(f j k:Nat):DkT k:=(qP f,(r8 j).ns.length,uh (r8 j).ns (r8 j).gs (r8 j).body,cur k<|bL f<|r8 j)
def dkR(j k r:Nat)(is:IS):DkT k:=(ae<|r8 j,k+r,is,cur k<|bR k<|r8 j)
theorem Dk.of{f}(j:Nat)(e:dkL f j k=dkR j k r is):Dk f k r is:=
 have h1:=cW e;have h2:=cW h1.2;have h3:=cW h2.2
 ⟨r8 j,h1.1,λG F H vs e name kV doc pm an ct=>xV<|congrFun (congrFun (congrFun (congrFun (congrFun (congrFun (Ny k h3.2 vs e) name) kV) doc) pm) an) ct,h2.1,h3.1⟩
end
mutual
noncomputable def AV.mp(g:Nat->Nat):AV->AV
 |.ref k=>.ref<|g k
 |.tup xs=>.tup<|AV.mps g xs
 |v=>v
noncomputable def AV.mps(g:Nat->Nat):List AV->List AV
 |[]=>[]
 |x::xs=>x.mp g::AV.mps g xs
end
noncomputable def AV.Pq(g:Nat->Nat):List (Option AV)->List (Option AV)
 |[]=>[]
 |Option.none::xs=>Option.none::AV.Pq g xs
 |Option.some x::xs=>Option.some (x.mp g)::AV.Pq g xs
noncomputable def AO.mp(g:Nat->Nat):AO->AO
 |.inst c vs=>.inst c<|AV.Pq g vs
 |.lst xs=>.lst<|AV.mps g xs
 |.ba b=>.ba b
 |.tab n f=>.tab n f
 |.dct f=>.dct f
 |.fb aq=>.fb aq
 |.fb (ae v)=>.fb<|ae<|v.mp g
 |.fn m q cs=>.fn m q<|cs.map λp=>(p.1,g p.2)
 |.tA ms q p=>.tA ms q p
 |.gone=>.gone
 |.ll xs=>.ll xs
 |.IL vs n=>.IL vs n
 |.own c P=>.own c P
noncomputable def AO.mps(g:Nat->Nat):List AO->List AO
 |[]=>[]
 |x::xs=>x.mp g::AO.mps g xs
noncomputable def AR.mp(g:Nat->Nat):AR->AR
 |.ret v=>.ret<|v.mp g
 |.exc c=>.exc c
section
variable{ω bb:Om}{g:Nat->Nat}
mutual
theorem EK(h1:∀k,ω.ρ[k]? =bb.ρ[g k]?)(h2:ω.τ=bb.τ):∀{a:AV} {v:aG},a.Is ω v↔(a.mp g).Is bb v
 |.none,v=>fq
 |.bool b,v=>fq
 |.int i,v=>fq
 |.str i,v=>fq
 |.bytes i,v=>fq
 |.ref k,v=>by show(∃a,ω.ρ[k]? =ae a/\v= .ref a)↔(∃a,bb.ρ[g k]? =ae a/\v= .ref a);rw[h1]
 |.tup xs,v=>by
  show(∃a vs,(a,Fz.tup vs)∈ω.τ/\v= .ref a/\AV.yj ω xs vs)↔(∃a vs,(a,Fz.tup vs)∈bb.τ/\v= .ref a/\AV.yj bb (AV.mps g xs) vs);rw[h2];exact exists_congr λa=>exists_congr λvs=>and_congr_right λz=>and_congr_right λz=>Di h1 h2
 |.raw w,v=>fq
 |.opt _,v=>fq
theorem Di(h1:∀k,ω.ρ[k]? =bb.ρ[g k]?)(h2:ω.τ=bb.τ):∀{a:List AV} {v:List aG},AV.yj ω a v↔AV.yj bb (AV.mps g a) v
 |[],v=>fq
 |a::as,v=>by
  show(∃w ws,v=w::ws/\a.Is ω w/\AV.yj ω as ws)↔(∃w ws,v=w::ws/\(a.mp g).Is bb w/\AV.yj bb (AV.mps g as) ws);exact exists_congr λw=>exists_congr λws=>and_congr_right λz=>and_congr (EK h1 h2)<|Di h1 h2
end
theorem JY(h1:∀k,ω.ρ[k]? =bb.ρ[g k]?)(h2:ω.τ=bb.τ){a}:∀{v:Option aG},Aj ω (ae a) v↔Aj bb (ae<|a.mp g) v
 |none=>fq
 |some _=>EK h1 h2
theorem JZ(h1:∀k,ω.ρ[k]? =bb.ρ[g k]?)(h2:ω.τ=bb.τ){a}{v}:Vs ω a v↔Vs bb (AV.mps g a) v:=by
 rwa[dq (propext iY)<|dq (propext iY) ?_,Di h1 h2]
theorem zw(h1:∀k,ω.ρ[k]? =bb.ρ[g k]?)(h2:ω.τ=bb.τ){a}:∀{v:List (Option aG)},A3 ω a v↔A3 bb (AV.Pq g a) v:=by
 induction a with
 |nil=>exact⟨λh=>F2.en h .nil,λh=>F2.en h .nil⟩
 |cons o as ih=>cases o with
  |none=>exact⟨λh=>F2.ec h λz z p q=>.cons trivial (ih.mp q),λh=>F2.ec h λz z p q=>.cons trivial (ih.mpr q)⟩
  |some a=>exact⟨λh=>F2.ec h λb z p q=>.cons ((JY h1 h2).mp p)<|ih.mp q,λh=>F2.ec h λb z p q=>.cons ((JY h1 h2).mpr p)<|ih.mpr q⟩
theorem WI(h1:∀k,ω.ρ[k]? =bb.ρ[g k]?){cs}{cl}:F2 (λ(p:bI×Nat) (q:bI×br)=>q.1=p.1/\ω.ρ[p.2]? =ae q.2) cs cl↔F2 (λ(p:bI×Nat) (q:bI×br)=>q.1=p.1/\bb.ρ[p.2]? =ae q.2) (cs.map λp=>(p.1,g p.2)) cl:=by
 exact af (propext F2.A2)<|⟨λh=>h.imp λa b x=>⟨x.1,(h1 _).symm.trans x.2⟩,λh=>h.imp λa b x=>⟨x.1,(h1 _).trans x.2⟩⟩
theorem Pt(h2:ω.τ=bb.τ):AO.P (.ll xs) ω a gl->AO.P (.ll xs) bb a gl:=λ⟨c,v,h,r⟩=>
 ⟨c,v,iY.mp<|AV.yj.mv (c:=λz=>ao) ⟨λz z e=>(nomatch e),λz m=>h2▸m⟩ xs c<|iY.mpr h,r⟩
theorem WJ(h1:∀k,ω.ρ[k]? =bb.ρ[g k]?)(h2:ω.τ=bb.τ){a}{gl}{o}:AO.P o ω a gl↔AO.P (o.mp g) bb a gl:=by
 cases o with
 |inst c vs=>exact exists_congr λv=>and_congr_left λy=>zw h1 h2
 |lst xs=>exact exists_congr λv=>and_congr_left λy=>JZ h1 h2
 |fb v=>cases v with
  |none=>exact fq
  |some v=>exact exists_congr λw=>and_congr_left λy=>JY h1 h2
 |fn m q cs=>exact exists_congr λc'=>exists_congr λcl=>exists_congr λnm=>exists_congr λpm=>exists_congr λct=>and_congr (WI h1) (and_congr_left λy=>by exact af h2<|by rfl)
 |tA ms q p=>exact⟨λ⟨z,ps,h,k,r⟩=>⟨z,ps,h,h2▸k,r⟩,λ⟨z,ps,h,k,r⟩=>⟨z,ps,h,h2▸k,r⟩⟩
 |ll xs=>exact⟨Pt h2,Pt h2.symm⟩
 |_=>exact fq
theorem yy(h1:∀k,ω.ρ[k]? =bb.ρ[g k]?)(h2:ω.τ=bb.τ){os}:∀{as:List br},F2 PI (dR ω as os) (dR bb as<|AO.mps g os)/\F2 PI (dR bb as<|AO.mps g os) (dR ω as os):=by
 induction os with
 |nil=>intro as;exact⟨.nil,.nil⟩
 |cons o os ih=>intro as;cases as with
  |nil=>exact⟨.nil,.nil⟩
  |cons a as=>exact⟨.cons (λg h=>(WJ h1 h2).mp h) ih.1,.cons (λg h=>(WJ h1 h2).mpr h) ih.2⟩
end
noncomputable def b9(hp:List AO):List Nat->List AO
 |[]=>hp
 |j::js=>b9 (hp.set j .gone) js
noncomputable def qG(hp:List AO):List Nat->List AO->List AO
 |j::js,o::os=>qG (hp.set j o) js os
 |_,_=>hp
theorem gf:∀{js:List Nat} {hp:List AO},(b9 hp js).length=hp.length
 |[],hp=>rfl
 |j::js,hp=>by rw[b9,gf,cG]
theorem yz:∀{hp os:List AO},(qG hp js os).length=hp.length:=by
 induction js with
 |nil=>intro hp os;cases os<;>rfl
 |cons j js ih=>intro hp os;cases os with
  |nil=>rfl
  |cons o os=>exact(ih (hp:=hp.set j o)).trans cG
theorem Dj:∀{hp:List AO} {j:Nat} {o:AO},j∉js->(b9 hp js).set j o=b9 (hp.set j o) js:=by
 induction js with
 |nil=>
  intro hp j o _;exact rfl
 |cons k js ih=>
  intro hp j o h;rw[aV,not_or] at h;rw[b9,b9,ih h.2,Uk _ _ λe=>h.1 e.symm]
theorem Dl:∀{hp:List AO} {j:Nat},j∉js->(b9 hp js)[j]? =hp[j]? :=by
 induction js with
 |nil=>
  intro hp j _;exact rfl
 |cons k js ih=>
  intro hp j h;rw[aV,not_or] at h;rw[b9,ih h.2,gV λe=>h.1 e.symm]
theorem F2.J0{hp:List AO}{os:List AO}(nd:j∉js)(r:F2 (λj o=>hp[j]? =ae o) js os):F2 (λk o=>(hp.set j .gone)[k]? =ae o) js os:=by
 induction r with
 |nil=>exact .nil
 | @cons k b js os p r ih=>
   rw[aV,not_or] at nd;exact .cons ((gV nd.1).trans p)<|ih nd.2
theorem wH:∀{hp os:List AO} {X:List bp},ρ.length=hp.length->js.Nodup->F2 (λj o=>hp[j]? =ae o) js os->Sat C (dR ω ρ hp++X) s->Sat C (dR ω (js.map λj=>ρ.getD j 0) os++(dR ω ρ (b9 hp js)++X)) s:=by
 induction js with
 |nil=>intro hp os X hl nd h H;exact F2.en (p:=λos=>Sat C (dR ω (nY (λj=>ρ.getD j 0) []) os++(dR ω ρ (b9 hp [])++X)) s) h H
 |cons j js ih=>
  intro hp os X hl nd h H;erw [F2.ec (p:=λos=>Sat C (dR ω (nY (λj=>ρ.getD j 0)<|_::_) os++(dR ω ρ (b9 hp<|_::_)++X)) s) h λo os e r=>?_,-h,nn λzn=>?_,aK (ni (ω:=ω) hl e) λa ea aH=>?_,aK aH λl p q=>?_,zn,-zn,-aH];rw[cO] at nd;have dU:ρ.getD j 0=a:=by refine af (aW)<|af ea ?_;rfl
  have H1:Sat C (o.P ω a::(dR ω ρ (hp.set j .gone)++X)) s:=by
   have H2:=(H.perm<|p.append_right X).emp;have H3:Sat C (o.P ω a::AO.P .gone ω a::(l++X)) s:=iC<|H2.imp λg hg=>hg;exact H3.perm<|((q .gone).append_right X).symm.cons _
  have H2:=H1.perm (dw.symm:(o.P ω a::(dR ω ρ (hp.set j .gone)++X)).Perm (dR ω ρ (hp.set j .gone)++(o.P ω a::X)));have:=ih (hp:=hp.set j .gone) (os:=os) (X:=o.P ω a::X) (by simpa using hl) nd.2 ?_ H2
  . show Sat C (o.P ω (ρ.getD j 0)::(dR ω (js.map λj=>ρ.getD j 0) os++(dR ω ρ (b9 (hp.set j .gone) js)++X))) s
    exact af dU<|this.perm pf.symm
  . exact F2.J0 nd.1 r
theorem J1:∀{hp os:List AO} {X:List bp},ρ.length=hp.length->js.Nodup->(∀j∈js,j<hp.length)->js.length=os.length->Sat C (dR ω (js.map λj=>ρ.getD j 0) os++(dR ω ρ (b9 hp js)++X)) s->Sat C (dR ω ρ (qG hp js os)++X) s:=by
 induction js with
 |nil=>intro hp os X hl nd hb hn H;rw[d9 hn.symm] at H |-;exact H
 |cons j js ih=>
  intro hp os X hl nd hb hn H
  cases os with
  |nil=>exact absurd hn<|w9 _
  |cons o os=>
   rw[cO] at nd;have hj:j<hp.length:=hb j<|.head _;have eg:(b9 (hp.set j .gone) js)[j]? =ae .gone:=af (Dl nd.1)<|af (oJ hj) rfl;erw [nn λzn=>?_,aK (ni (ω:=ω) (as:=ρ) (by rwa[af gf<|af cG ?_,hl]) eg) λa ea aH=>?_,aK aH λl p q=>?_,zn,-zn,-aH];have q:=q o;rw[Dj nd.1,uE] at q;have dU:ρ.getD j 0=a:=by refine af (aW)<|af ea ?_;rfl
   have H0:Sat C (o.P ω a::(dR ω (js.map λj=>ρ.getD j 0) os++(dR ω ρ (b9 (hp.set j .gone) js)++X))) s:=by rwa[dq dU,H]
   have H1:Sat C (AO.P .gone ω a::o.P ω a::(dR ω (js.map λj=>ρ.getD j 0) os++(l++X))) s:=H0.perm (by
    exact(iQ _<|(p.append_right X).append_left _).trans<|(iQ _ dw).trans<|.swap ..)
   have H2:Sat C (dR ω (js.map λj=>ρ.getD j 0) os++(dR ω ρ (b9 (hp.set j o) js)++X)) s:=H1.drop.perm (by
    refine ia ?_<|(q.append_right X).symm.append_left _
    exact dw.symm)
   exact ih (hp:=hp.set j o) (by simpa using hl) nd.2 (λk hk=>by rwa[af cG,hb k<|.tail _ hk]) (by simpa using hn) H2
section
variable{k:Nat}{hp:List AO}
theorem LV.mono(h:LV n f m args hp post')(hk:∀r h,post' r h->post r h):LV n f m args hp post:=
 by
 constructor;intro C A K G F rm ω vs R s Rr hv hm hl H q1 q2;exact h.run G F rm hv hm hl H (λv hp' bb w s' p=>q1 v hp' bb w s'<|hk _ _ p) λc hp' bb a s' p=>q2 c hp' bb a s'<|hk _ _ p
theorem LV.le(h:LV n f m args hp post)(e:n<=k):LV k f m args hp post:=⟨λG F rm=>h.run G F<|rm.le e⟩
noncomputable def bN(r:AR)(h:List AO)(r':AR)(h':List AO):Prop:=r'=r/\h'=h
noncomputable def i4(js:List Nat)(N k:Nat):Nat:=if k<js.length then js.getD k 0 else N+(k-js.length)
theorem nu:∀{os:List AO},(AO.mps g os).length=os.length
 |[]=>rfl
 |o::os=>by rw[AO.mps,bQ,bQ,nu]
theorem EL{js:List Nat}(h:F2 (λj o=>hp[j]? =ae (AO.mp g o)) js hq):F2 (λj o=>hp[j]? =ae o) js (AO.mps g hq):=by
 induction h with
 |nil=>exact .nil
 |cons p _ ih=>exact .cons p ih
theorem J2(h:F2 (λj o=>hp[j]? =ae (AO.mp g o)) js hq):∀j∈js,j<hp.length:=by
 induction h with
 |nil=>intro j hj;contradiction
 |cons p _ ih=>
  intro j hj;rcases aV.mp hj with rfl |hj
  . exact(bg.mp p).1
  . exact ih j hj
theorem zx{k}(h:k<js.length):i4 js N k=js[k]:=by unfold i4;refine af (if_pos h)<|af (aW)<|af (aI h) ?_;rfl
theorem wI:∀{a b:List AO},AO.mps g (a++b)=AO.mps g a++AO.mps g b
 |[],b=>rfl
 |x::a,b=>by rw[f7,AO.mps,wI,AO.mps,f7]
theorem Bo(hl:ω.ρ.length=hp.length)(nd:js.Nodup)(ju:∀j∈js,j<hp.length)(hn:js.length<=qH.length)(ag:Agree js.length ⟨js.map λj=>ω.ρ.getD j 0,ω.τ⟩ kY)(jk:kY.ρ.length=qH.length)(H:Sat C (X++(dR kY kY.ρ qH++(tups kY.τ++(dR ω ω.ρ (b9 hp js)++R)))) s):
 ∃bb,Agree hp.length ω bb/\bb.ρ.length=(qG hp js (AO.mps (i4 js hp.length)<|qH.take js.length)++AO.mps (i4 js hp.length) (qH.drop js.length)).length/\(∀k,kY.ρ[k]? =bb.ρ[i4 js hp.length k]?)/\kY.τ=bb.τ/\
  Sat C (X++(dR bb bb.ρ (qG hp js (AO.mps (i4 js hp.length)<|qH.take js.length)++AO.mps (i4 js hp.length) (qH.drop js.length))++(tups bb.τ++R))) s:=by
 have tk:kY.ρ.take js.length=js.map λj=>ω.ρ.getD j 0:=by
  refine uF λi=>?_;by_cases hi:i<js.length
  . rwa[af (fJ hi) ?_,ag.same i hi]
  . exact af (List.getElem?_take_eq_none<|(a8 hi)) (af (dp<|by simpa using by exact(a8 hi)) rfl)
 have ext:mh ω ⟨ω.ρ++kY.ρ.drop js.length,kY.τ⟩:=⟨aA _,by simp,λi hi=>by exact bF (by assumption),ag.tups⟩
 have e2:∀k,kY.ρ[k]? =(ω.ρ++kY.ρ.drop js.length)[i4 js hp.length k]? :=λk=>by
  by_cases hk:k<js.length
  . have h1:=ag.same k hk
    refine af h1<|af (zx hk) ?_;have hj:js[k]<ω.ρ.length:=by rwa[af hl,ju _<|f6 hk]
    erw [(?_:(js.map λj=>ω.ρ.getD j 0)[k]? =_),af (bF hj)<|af (dD)<|af (aI hk)<|af (oj _ _)<|af (aW)<|af (aI hj) ?_];rfl
  . unfold i4
    refine af (if_neg hk)<|af (fh<|‹a=b->a<=b+c› hl)<|af (List.getElem?_drop) ?_
    congr 1;exact‹a=b->c+a==b+d->d+e==f->f=e+c› hl (ay<|‹a=b->a<=b+c› hl) (ay<|(a8 hk))
 refine(qa1 ⟨ω.ρ++kY.ρ.drop js.length,kY.τ⟩ (by unfold mh at ext;rw[hl] at ext;exact ext) ?_ e2 rfl ?_)
 . refine(?_:(ω.ρ++kY.ρ.drop js.length).length=_)
   exact af aj<|af aj<|af yz<|af nu<|af jI<|af jI<|af hl<|af jk rfl
 . generalize GY:(⟨ω.ρ++kY.ρ.drop js.length,kY.τ⟩:Om)=bb at ext
   have er:bb.ρ=ω.ρ++kY.ρ.drop js.length:=by(first |exact GY.symm |exact congrArg _ GY.symm |exact dq GY rfl)
   have et:kY.τ=bb.τ:=by(first |exact GY.symm |exact congrArg _ GY.symm |exact dq GY rfl)
   refine af er (af (iF<|by rw[yz,hl]) ?_);have H1:=H.oW (F2.append (F2.dK (l:=X))<|(yy (g:=i4 js hp.length) (bb:=bb) (λk=>by rwa[af er,e2 k]) et).1.append<|(F2.dK (l:=tups kY.τ)).append<|(AO.Ps.ext ext).append<|F2.dK (l:=R))
   have e3:dR bb kY.ρ (AO.mps (i4 js hp.length) qH)=dR bb (js.map λj=>ω.ρ.getD j 0) (AO.mps (i4 js hp.length)<|qH.take js.length)++dR bb (kY.ρ.drop js.length) (AO.mps (i4 js hp.length)<|qH.drop js.length):=by
    conv=>lhs;rw[<-dn js.length kY.ρ, <-dn js.length qH,wI,tk]
    exact iF (by refine af nu<|af (a3 _)<|af cA ?_;lia)
   have H2:=H1;rw[e3] at H2;erw [dq et]
   have pm:∀{A B T G:List bp},(X++((A++B)++(T++(G++R)))).Perm (A++(G++(B++(T++(R++X))))):=λ{A B T G}=>by
    have p1:((A++B)++(T++(G++R))++X).Perm (A++(G++(B++(T++(R++X))))):=by
     rwa[af (ax _ _ _)<|af (ax _ _ _)<|af (ax _ _ _)<|af (ax _ _ _) ?_,i8 A,dq (ax B T _)<|dq (ax B T _)<|dq (ax G (B++T) _) ?_,ia ?_<|eA _ cZ,af (ax (B++T) G _)<|by rfl]
    exact cZ.trans p1
   have H3:=J1 (ω:=bb) (ρ:=ω.ρ) (js:=js) (hp:=hp) hl nd ju (by refine af nu<|af cA ?_;lia)<|H2.perm pm;erw [H3.perm];generalize dR bb ω.ρ (qG hp js<|AO.mps (i4 js hp.length)<|qH.take js.length)=P;generalize dR bb (kY.ρ.drop js.length) (AO.mps (i4 js hp.length)<|qH.drop js.length)=B;refine ia ?_ cZ;simp only[ax];exact qfv _
theorem LV.loc(js:List Nat)(h:LV n f hq.length args hq post)(nd:js.Nodup)(hs:F2 (λj o=>hp[j]? =ae (AO.mp (i4 js hp.length) o)) js hq):
 LV n f hp.length (AV.mps (i4 js hp.length) args) hp λr hp'=>∃r0 qH,post r0 qH/\hq.length<=qH.length/\r=r0.mp (i4 js hp.length)/\hp'=qG hp js (AO.mps (i4 js hp.length)<|qH.take js.length)++AO.mps (i4 js hp.length) (qH.drop js.length):=by
 constructor;intro C A K G F rm ω vs R s Rr hv hm hl H q1 q2;have ju:=J2 hs;have hn:js.length=hq.length:=hs.length
 have e1:∀k,(js.map λj=>ω.ρ.getD j 0)[k]? =ω.ρ[i4 js hp.length k]? :=λk=>by
  by_cases hk:k<js.length
  . have hj:js[k]<ω.ρ.length:=by refine af hl ?_;exact ju _ (f6 hk)
    refine af (zx hk)<|af (dD)<|af (aI hk)<|af (oj _ _)<|af (aW)<|af (aI hj) ?_;rfl
  . unfold i4
    exact af (if_neg hk) (af (dp<|by simpa using by exact(a8 hk))<|af (dp<|‹a=b->a<=b+c› hl) rfl)
 have H1:=wH hl nd (EL hs) H;have H2:=H1.oW<|F2.append (yy (ω:=⟨js.map λj=>ω.ρ.getD j 0,ω.τ⟩) (bb:=ω) e1 rfl).2 F2.dK
 have pm:∀{A G T:List bp},(A++(G++(T++R))).Perm (A++(T++(G++R))):=λ{A G T}=>by
  rwa[i8 A,dq (ax _ _ _)<|dq (ax _ _ _) ?_,eA _ cZ]
 have H3:=H2.perm pm;refine h.run G F rm (ω:=⟨js.map λj=>ω.ρ.getD j 0,ω.τ⟩) ((JZ (ω:=⟨js.map λj=>ω.ρ.getD j 0,ω.τ⟩) (bb:=ω) e1 rfl).mpr hv) (aA _) (by simpa using hn) H3 (λv hp' bb w s' p ag jk hw H'=>?_) λc hp' bb a s' p ag jk H'=>?_
 . have nZ:hq.length<=hp'.length:=by refine dq jk ?_;exact ag.l2
   rwa[Vj (Bo (X:=[]) hl nd ju (‹a=b->b<=c->a<=c› hn nZ) (by rwa[af hn,ag]) jk H') λip a2 l2 e2 t2 H4=>?_,q1 (v.mp _) _ ip w s' (F5 _ _ p nZ rfl rfl) (a2.le hm) l2 ((EK e2 t2).mp hw) H4]
 . have nZ:hq.length<=hp'.length:=by refine dq jk ?_;exact ag.l2
   rwa[Vj (Bo (X:=[yk a c]) hl nd ju (‹a=b->b<=c->a<=c› hn nZ) (by rwa[af hn,ag]) jk H') λip a2 l2 e2 t2 H4=>?_,q2 c _ ip a s' (F5 _ _ p nZ rfl rfl) (a2.le hm) l2 H4]
end
inductive TB |isMatch |jg |choice |low |slots |special |align |literals
deriving DecidableEq
set_option genCtorIdx false in
inductive Ev |bit(t:TB)(i:Nat)(b:Bool) |half(b:Bool)
noncomputable abbrev MS:=TB->Nat->Nat
noncomputable def nxt(p:Nat)(b:Bool):Nat:=if b then p-p/32 else p+(2048-p)/32
noncomputable def iN(b:Bool):Nat:=if b then 1 else 0
def MS.Ok(ms:MS):Prop:=∀t i,31<=ms t i/\ms t i<=2017
noncomputable def MS.upd(ms:MS)(t:TB)(i:Nat)(b:Bool):MS:=λt' j=>if t'=t/\j=i then nxt (ms t' j) b else ms t' j
theorem Sr(h:31<=p/\p<=2017):31<=nxt p b/\nxt p b<=2017:=by
 erw [aT h λh1 h2=>?_,-h]
 cases b with
 |true=>
  refine(?_:31<=p-p/32/\p-p/32<=2017);have hq:p/32*32<=p:=f9 _ _;generalize p/32=q at*;have hs:p-q+q=p:=ay<|‹a%32<=b->(a<=b)^32› hq;exact⟨by exact‹(31<=a)^31->b%32<=a->(c+b==a)^32->(31<=c)^32› h1 hq hs,az (dk _ _) h2⟩
 |false=>
  refine(?_:31<=p+(2048-p)/32/\p+(2048-p)/32<=2017);have hq:(2048-p)/32*32<=2048-p:=f9 _ _;have hs:2048-p+p=2048:=ay<|‹a<=2017->a<=2048› h2;generalize(2048-p)/32=q at*;exact⟨az h1<|aU _ _,by exact‹(a<=2017)^31->b+a=2048->c%32<=b->(a+c<=2017)^32› h2 hs hq⟩
theorem MS.Ok.upd{ms:MS}(h:ms.Ok):(ms.upd t i b).Ok:=λt' j=>by
 unfold MS.upd;split
 . exact Sr<|h t' j
 . exact h t' j
structure ES where
 ms:MS
 L:Nat
 span:Nat
 k:Nat
noncomputable def ES.norm(e:ES):ES:=if e.span<16777216 then{e with L:=e.L*256,span:=e.span*256,k:=e.k+1} else e
noncomputable def ES.tG(e:ES)(t:TB)(i:Nat)(b:Bool):ES:=
 let DY:=e.span/2048*e.ms t i
 if b then{e with ms:=e.ms.upd t i b,L:=e.L+DY,span:=e.span-DY} else{e with ms:=e.ms.upd t i b,span:=DY}
noncomputable def ES.r9(e:ES)(b:Bool):ES:={e with L:=if b then e.L+e.span/2 else e.L,span:=e.span/2}
noncomputable def ES.xI(e:ES):Ev->ES
 |.bit t i b=>e.tG t i b
 |.half b=>e.r9 b
noncomputable def ES.ev(e:ES)(x:Ev):ES:=(e.xI x).norm
noncomputable def ES.run(e:ES)(l:List Ev):ES:=l.foldl ES.ev e
noncomputable def ES.start(ms:MS):ES:=⟨ms,0,4294967295,0⟩
structure ES.Ok(e:ES):Prop where
 ms:e.ms.Ok
 lo:16777216<=e.span
 hi:e.span<4294967296
theorem ES.Bp{ms}(h:ms.Ok):(ES.start ms).Ok:=⟨h,by rwa[(?_:16777216<=4294967295),aa rfl],by rwa[(?_:4294967295<4294967296),aA _]⟩
theorem pj(h:16777216<=span)(hp:31<=p/\p<=2017):65536<=span/2048*p/\65536<=span-span/2048*p/\span/2048*p<span:=by
 have h3:span/2048*2048<=span:=f9 _ _;have h4:span/2048*p<=span/2048*2017:=dj _ hp.2;have h6:span/2048*31<=span/2048*p:=dj _ hp.1;have h5:8192<=span/2048:=‹16777216<=a->2048*b+c==a->c<2048->(8192<=b)^2048› h (cu _ _) (bA _<|by exact eJ _);exact⟨‹(16777216<=a)^2031616->(b%31<=c)^134217728->(2048*b+d==a)^2031616->(d<2048)^2031616->(65536<=c)^520030239› h h6 (cu _ _) (bA _<|aN _),‹(16777216<=a)^31->(b%2048<=a)^2017->(c<=b%2017)^2048->(a<=d+c)^2048->(65536<=d)^7936› h h3 h4 (oM _ _),‹16777216<=a->(b%2048<=a)^16523264->(c<=b%2017)^16777216->(c<a)^16777216› h h3 h4⟩
theorem ES.wJ{e:ES}(h:e.Ok)(x:Ev):(e.xI x).ms.Ok/\65536<=(e.xI x).span/\(e.xI x).span<4294967296/\e.L<=(e.xI x).L/\(e.xI x).L+(e.xI x).span<=e.L+e.span/\(e.xI x).k=e.k:=by
 obtain⟨hm,lo,hi⟩:=h
 cases x with
 |bit t i b=>
  have hb:=pj lo<|hm t i;refine(?_:(e.tG t i b).ms.Ok/\65536<=(e.tG t i b).span/\(e.tG t i b).span<4294967296/\e.L<=(e.tG t i b).L/\(e.tG t i b).L+(e.tG t i b).span<=e.L+e.span/\(e.tG t i b).k=e.k);unfold ES.tG
  cases b with
  |false=>exact Md hm.upd hb.1 (aZ hb.2.2 hi) (aA _) (f5 (bM hb.2.2) _) rfl
  |true=>exact Md hm.upd hb.2.1 (a7 (dk _ _) hi) (aU _ _) (jt<|(kh _ _ _).trans<|congrArg _<|Nat.add_sub_cancel'<|bM hb.2.2) rfl
 |half b=>
  refine(?_:(e.r9 b).ms.Ok/\65536<=(e.r9 b).span/\(e.r9 b).span<4294967296/\e.L<=(e.r9 b).L/\(e.r9 b).L+(e.r9 b).span<=e.L+e.span/\(e.r9 b).k=e.k);unfold ES.r9;have h2:e.span/2<=e.span:=gE _ _;have h3:e.span/2*2<=e.span:=f9 _ _;have h4:65536<=e.span/2:=az (aa rfl)<|Nat.div_le_div_right (c:=2) lo
  cases b with
  |false=>exact Md hm h4 (a7 h2 hi) (aA _) (f5 h2 _) rfl
  |true=>exact Md hm h4 (a7 h2 hi) (aU _ _) (by rwa[(?_:e.L+e.span/2+e.span/2<=e.L+e.span),‹2*a+b=c->d+a+a<=d+c› (cu _ _)]) rfl
theorem ES.Nz{e:ES}(hm:e.ms.Ok)(h1:65536<=e.span)(h2:e.span<4294967296):e.norm.Ok:=by
 unfold ES.norm;by_cases q:e.span<16777216
 . exact af (if_pos q) ⟨hm,by dsimp only;exact‹(65536<=a)^256->16777216<=a%256› h1,by dsimp only;exact‹(a<16777216)^256->a%256<4294967296› q⟩
 . exact af (if_neg q) ⟨hm,a8 q,h2⟩
theorem ES.um{e:ES}(h:e.Ok)(x:Ev):(e.ev x).Ok:=by
 obtain⟨a,b,c,-⟩:=ES.wJ h x;exact ES.Nz a b c
theorem ES.kZ:∀{l:List Ev} {e:ES},e.Ok->(e.run l).Ok
 |[],_,h=>h
 |x::l,_,h=>ES.kZ (l:=l)<|ES.um h x
theorem ES.wK{e:ES}:e.run (l++l')=(e.run l).run l':=fE
theorem ES.Ss{e:ES}:e.k<=e.norm.k:=by unfold ES.norm;split<;>simp
theorem ES.qbH{e:ES}(h:e.Ok)(x:Ev):e.k<=(e.ev x).k:=by
 obtain⟨-,-,-,-,-,k⟩:=ES.wJ h x;have:=ES.Ss (e:=e.xI x);unfold ES.ev;exact‹a==b->a<=c->b<=c› k this
theorem ES.J3:∀{l:List Ev} {e:ES},e.Ok->e.k<=(e.run l).k
 |[],_,_=>aA _
 |x::l,e,h=>az (ES.qbH h x)<|ES.J3 (l:=l)<|ES.um h x
def ES.Holds(e:ES)(K V:Nat):Prop:=e.L*256 ^ (K-e.k)<=V/\V<(e.L+e.span)*256 ^ (K-e.k)
theorem ES.Dm{e:ES}{K}(hk:e.norm.k<=K)(h:e.norm.Holds K V):e.Holds K V:=by
 unfold ES.norm at h hk;by_cases q:e.span<16777216
 . rw[if_pos q] at h hk
   erw [aT h λa b=>?_,-h];have e1:K-e.k=(K-(e.k+1))+1:=(Nat.succ_pred_eq_of_pos<|Nat.sub_pos_of_lt hk).symm;dsimp only at a b;unfold ES.Holds;rw[e1,c3,eQ (256 ^ (K-(e.k+1))) 256, <-gF, <-gF,xk];exact⟨a,b⟩
 . rw[if_neg q] at h;exact h
theorem ES.wL{e:ES}{K}(ho:e.Ok)(hk:(e.ev x).k<=K)(h:(e.ev x).Holds K V):(e.xI x).Holds K V/\e.Holds K V:=by
 have h0:(e.xI x).Holds K V:=ES.Dm hk h;obtain⟨-,-,-,a,b,k⟩:=ES.wJ ho x;erw [⟨h0,?_⟩,aT h0 λh1 h2=>?_,-h0];rw[k] at h1 h2;exact⟨az (kq _ a) h1,aJ h2<|kq _ b⟩
theorem ES.yA:∀{l:List Ev} {e:ES},e.Ok->e.Holds (e.run l).k (e.run l).L
 |[],e,h=>by
  unfold ES.Holds ES.run;simp only[List.foldl_nil,cS,fF,qaU];have:=h.lo;exact⟨aA _,‹16777216<=a->(b<b+a)^16777216› this⟩
 |x::l,e,h=>(ES.wL h (ES.J3 (l:=l)<|ES.um h x)<|ES.yA (l:=l)<|ES.um h x).2
structure RS where
 place:Nat
 span:Nat
 code:Nat
noncomputable def RS.fill(d:List UInt8)(x:RS):RS:=if x.span<16777216 then⟨x.place+1,x.span*256,x.code*256+(d.getD x.place 0).toNat⟩ else x
noncomputable def RS.bit(d:List UInt8)(p:Nat)(x:RS):Bool×RS:=
 let DY:=x.span/2048*p
 if x.code>=DY then(ah,RS.fill d ⟨x.place,x.span-DY,x.code-DY⟩) else(ao,RS.fill d ⟨x.place,DY,x.code⟩)
noncomputable def RS.half(d:List UInt8)(x:RS):Bool×RS:=
 let h:=x.span/2
 if x.code>=h then(ah,RS.fill d ⟨x.place,h,x.code-h⟩) else(ao,RS.fill d ⟨x.place,h,x.code⟩)
def J4(d:List UInt8)(K V:Nat):Prop:=∀j,j<K+5->(d.getD j 0).toNat=V/256 ^ (K+4-j)%256
noncomputable def sb(e:ES)(K V:Nat):RS:=⟨5+e.k,e.span,V/256 ^ (K-e.k)-e.L⟩
theorem nv{e:ES}{K}(h:e.Holds K V):e.L<=V/256 ^ (K-e.k)/\V/256 ^ (K-e.k)<e.L+e.span:=by
 have hp:0<256 ^ (K-e.k):=g9<|aN _;exact⟨(Nat.le_div_iff_mul_le hp).mpr h.1,(Nat.div_lt_iff_lt_mul hp).mpr h.2⟩
theorem yB{K}(ho:J4 d K V)(hk:e.norm.k<=K)(h:e.Holds K V):RS.fill d (sb e K V)=sb e.norm K V:=by
 delta RS.fill sb ES.norm;by_cases q:e.span<16777216
 . delta ES.norm at hk
   rw[if_pos q] at hk;refine af (if_pos q)<|af (if_pos q) ?_;dsimp only at hk |-;have hc:=(nv h).1;erw [af (ho (5+e.k)<|‹a+1<=b->5+a<b+5› hk)];have e1:K-e.k=(K-(e.k+1))+1:=‹a+b=c->d+(b+1)==c->a=d+1› (ay<|‹a+1<=b->a<=b› hk) (ay hk);have e2:K+4-(5+e.k)=K-(e.k+1):=‹a+(5+b)=c+4->d+(b+1)==c->a=d› (ay<|‹a+1<=b->5+a<=b+4› hk) (ay hk);erw [af e2];have e3:V/256 ^ (K-e.k)=V/256 ^ (K-(e.k+1))/256:=af e1<|af (c3 _ _)<|af (df _ _ _) rfl;rw[e3] at hc |-;generalize V/256 ^ (K-(e.k+1))=y at*;have e4:5+e.k+1=5+(e.k+1):=‹5+a+1=5+(a+1)›;erw [af e4]
   congr 1
   rw[Nat.sub_mul];exact‹256*a+b=c->d+e%256=a%256->f+e%256==c->d+b=f› (cu _ _) (ay<|‹(a<=b)^256->a%256<=b%256› hc) (ay<|‹(a<=b)^256->256*b+c=d->a%256<=d› hc (cu _ _))
 . exact af (if_neg q)<|af (if_neg q) rfl
theorem NA{K}(he:e.Ok)(ho:J4 d K V)(hk:(e.ev<|.bit t i b).k<=K)(h:(e.ev<|.bit t i b).Holds K V):
 RS.bit d (e.ms t i) (sb e K V)=(b,sb (e.ev<|.bit t i b) K V):=by
 refine aT (ES.wL he hk h) λh0 h1=>?_;have F0:=nv h0;have hc1:=nv h1;have f:=yB ho hk h0;have hb:=pj he.lo<|he.ms t i;unfold RS.bit;unfold ES.ev at*;erw [dq f]
 cases b with
 |true=>
  have e1:e.xI (.bit t i ah)={e with ms:=e.ms.upd t i ah,L:=e.L+e.span/2048*e.ms t i,span:=e.span-e.span/2048*e.ms t i}:=rfl;rw[e1] at F0 |-;unfold sb;dsimp only at F0 |-;exact af (if_pos<|by exact‹a+b<=c->c<=d+a->b<=d› F0.1 (oM _ _))<|af (qaV _ _ _) rfl
 |false=>
  have e1:e.xI (.bit t i ao)={e with ms:=e.ms.upd t i ao,span:=e.span/2048*e.ms t i}:=rfl;rw[e1] at F0 |-;unfold sb;dsimp only at F0 |-
  (first |exact(if_neg<|by exact om<|‹a<b+c->d+b=a->d<c› F0.2 (ay F0.1)) |exact congrArg _ (if_neg<|by lia) |exact af (if_neg<|by lia) rfl)
theorem J5{K}(he:e.Ok)(ho:J4 d K V)(hk:(e.ev<|.half b).k<=K)(h:(e.ev<|.half b).Holds K V):
 RS.half d (sb e K V)=(b,sb (e.ev<|.half b) K V):=by
 refine aT (ES.wL he hk h) λh0 h1=>?_;have F0:=nv h0;have hc1:=nv h1;have f:=yB ho hk h0;have lo:=he.lo;unfold RS.half;unfold ES.ev at*;erw [dq f]
 cases b with
 |true=>
  have e1:e.xI (.half ah)={e with L:=e.L+e.span/2,span:=e.span/2}:=rfl;rw[e1] at F0 |-;unfold sb;dsimp only at F0 |-;exact af (if_pos<|by exact‹a+b<=c->c<=d+a->b<=d› F0.1 (oM _ _))<|af (qaV _ _ _) rfl
 |false=>
  have e1:e.xI (.half ao)={e with L:=e.L,span:=e.span/2}:=rfl;rw[e1] at F0 |-;unfold sb;dsimp only at F0 |-
  (first |exact(if_neg<|by exact om<|‹a<b+c->d+b=a->d<c› F0.2 (ay hc1.1)) |exact congrArg _ (if_neg<|by lia) |exact af (if_neg<|by lia) rfl)
structure fM where
 nN:MS
 evs:List Ev
 d:List UInt8
noncomputable def fM.es(T:fM)(done:List Ev):ES:=(ES.start T.nN).run done
noncomputable def fM.K(T:fM):Nat:=(T.es T.evs).k
noncomputable def fM.V(T:fM):Nat:=(T.es T.evs).L
structure fM.Ok(T:fM):Prop where
 ms:T.nN.Ok
 aP:J4 T.d T.K T.V
 len:T.K+5<=T.d.length
noncomputable def fM.rs(T:fM)(done:List Ev):RS:=sb (T.es done) T.K T.V
theorem fM.yC{T:fM}(h:T.Ok)(done:List Ev):(T.es done).Ok:=ES.kZ<|ES.Bp h.ms
theorem fM.at{T:fM}(h:T.Ok){done todo}(e:T.evs=done++todo):(T.es done).k<=T.K/\(T.es done).Holds T.K T.V:=by
 have e1:T.es T.evs=(T.es done).run todo:=by rwa[af e,ES.wK]
 delta fM.K fM.V;exact af e1<|⟨ES.J3<|T.yC h done,ES.yA<|T.yC h done⟩
theorem fM.pV{T:fM}:T.es (done++[x])=(T.es done).ev x:=ES.wK
theorem fM.bit{T:fM}(h:T.Ok){done todo}{t i b}(e:T.evs=done++ .bit t i b::todo):RS.bit T.d ((T.es done).ms t i) (T.rs done)=(b,T.rs<|done++[.bit t i b]):=by
 refine aT (T.at h (done:=done++[.bit t i b]) (todo:=todo)<|by rw[e];simp) λa c=>?_;rw[fM.pV] at a c;unfold fM.rs;rw[fM.pV];exact NA (T.yC h done) h.aP a c
theorem fM.half{T:fM}(h:T.Ok){done todo}{b}(e:T.evs=done++ .half b::todo):RS.half T.d (T.rs done)=(b,T.rs<|done++[.half b]):=by
 refine aT (T.at h (done:=done++[.half b]) (todo:=todo)<|by rw[e];simp) λa c=>?_;rw[fM.pV] at a c;unfold fM.rs;rw[fM.pV];exact J5 (T.yC h done) h.aP a c
theorem fM.EM{T:fM}(h:T.Ok){done todo}(e:T.evs=done++todo):(T.rs done).place<=T.d.length/\16777216<=(T.rs done).span/\(T.rs done).span<4294967296/\(T.rs done).code<(T.rs done).span:=by
 refine aT (T.at h e) λa c=>?_;have:=nv c;have ok:=T.yC h done;have hl:=h.len;delta fM.rs sb;dsimp only;exact(mT (‹a<=b->b+5<=c->5+a<=c› a hl) ok.lo ok.hi<|‹a<b+c->d+b=a->d<c› this.2 (ay this.1))
theorem fM.end_{T:fM}(h:T.Ok):T.rs T.evs=⟨5+T.K,(T.es T.evs).span,0⟩:=by
 delta fM.rs sb;rwa[(?_:(⟨5+T.K,_,T.V/256 ^ (T.K-T.K)-T.V⟩:RS)=_),af (cS _)<|af (fF _)<|af (ku _)<|af (cS _) rfl]
noncomputable def g0(l:List Nat):Nat:=l.foldl (λa b=>a*256+b) 0
theorem tH:∀(l:List Nat) (a:Nat),l.foldl (λa b=>a*256+b) a=a*256 ^ l.length+g0 l
 |[],a=>by simp[g0]
 |x::l,a=>by
  have h1:=tH l<|a*256+x;have h2:=tH l x;unfold g0;simp only[List.foldl_cons,Nat.zero_mul,pJ,bQ];rw[h1,h2,c3,xk,gF,eQ 256,kh]
theorem jB:g0 (l++l')=g0 l*256 ^ l'.length+g0 l':=by
 unfold g0;refine af fE<|af (tH _ _) ?_;rfl
theorem kD:g0 (l++[x])=g0 l*256+x:=by simp[g0,fE]
theorem J6(n:Nat):g0 (aS n 255)+1=256 ^ n:=by
 induction n with
 |zero=>rfl
 |succ n ih=>rwa[af d8<|af kD<|af (c3 _ _) ?_,‹(a+1=b)^256->a%256+255+1=b%256› ih]
theorem Su(n:Nat):g0 (aS n 0)=0:=by
 induction n with
 |zero=>rfl
 |succ n ih=>exact af d8<|af kD<|af ih rfl
structure Wn where
 made:List Nat
 low:Nat
 cache:Nat
 held:Nat
noncomputable def Wn.shift(x:Wn):Wn:=
 if x.low<4278190080\/x.low>=4294967296 then
  ⟨x.made++(x.cache+x.low/4294967296)%256::aS (x.held-1) ((255+x.low/4294967296)%256),x.low%16777216*256,x.low/16777216%256,1⟩
 else⟨x.made,x.low%16777216*256,x.cache,x.held+1⟩
noncomputable def Wn.num(x:Wn):Nat:=g0 (x.made++x.cache::aS (x.held-1) 255)*4294967296+x.low
structure Wn.Ok(x:Wn)(span k:Nat):Prop where
 held:1<=x.held
 len:x.made.length+x.held=k+1
 cache:x.cache<=255
 made:∀b∈x.made,b<=255
 top:x.low+span<=8589934592
 full:x.cache=255->x.low+span<=4294967296
theorem lt2:∀{v:Nat},v<2->v=0\/v=1
 |0,_=>.inl rfl
 |1,_=>.inr rfl
 |n+2,h=>absurd h<|qeR.mpr<|dG 2 n
theorem Wn.k7{x:Wn}(h:x.Ok span k)(hs:span<16777216)(hp:0<span):x.shift.num=x.num*256/\x.shift.Ok (span*256) (k+1):=by
 obtain⟨h1,h2,h3,h4,h5,h6⟩:=h;unfold Wn.shift;by_cases q:x.low<4278190080\/x.low>=4294967296
 . refine af (if_pos q) ?_
   unfold Wn.num;dsimp only;have hc:x.low/4294967296=0\/x.low/4294967296=1:=lt2<|hG<|aJ (Nat.lt_add_of_pos_right hp) h5;have e0:x.low/16777216/256=x.low/4294967296:=df _ _ _;have d1:=cu x.low 16777216;have d2:=cu (x.low/16777216) 256;rw[e0] at d2;have d3:x.low%16777216<16777216:=bA _<|aN _;refine⟨?_,⟨by dsimp only;exact aA _,?_,by dsimp only;exact‹a<256->a<=255› (bA _<|aN _),?_,?_,?_⟩⟩
   . refine af (show(1:Nat)-1=0 from rfl) (af Hz<|af kD ?_)
     refine af jB<|af jB ?_
     have e1:∀(a n c:Nat),g0 (a::aS n c)=a*256 ^ n+g0 (aS n c):=λa n c=>by
      refine dq cj<|af jB ?_;simp[g0]
     refine af (e1 _ _ _)<|af (e1 _ _ _) ?_;simp only[bQ,jE];have qbI:=J6<|x.held-1;have h0:=Su<|x.held-1;rcases hc with hc |hc
     . rw[hc,show(255+0)%256=255 from rfl,DZ,oq<|by exact‹a<=255->a+0<256› h3]
       generalize g0 x.made*256 ^ (x.held-1+1)=u;generalize x.cache*256 ^ (x.held-1)=v;rw[hc] at d2;generalize g0 (aS (x.held-1) 255)=y;generalize x.low/16777216%256=a at*;generalize x.low%16777216=m at*;generalize x.low/16777216=b at*;exact‹(256*0+a=b)^4294967296->(16777216*b+c=d)^256->((e+(f+g))%256+a)%4294967296+c%256=((e+(f+g))%4294967296+d)%256› d2 d1
     . have mO:x.cache≠255:=λz=>by have:=h6 z;exact‹0<a->(b==1)^4294967296->c+a<=4294967296->4294967296*b+d=c->0==0› hp hc (h6 z) (cu _ _)
       have e2:(x.cache+1)*256 ^ (x.held-1)=x.cache*256 ^ (x.held-1)+256 ^ (x.held-1):=af (xk _ _ _)<|af (qaW _) rfl;refine af hc<|af (show(255+1)%256=0 from rfl)<|af h0<|af (oq<|jX<|Nat.lt_of_le_of_ne h3 mO)<|af e2 ?_;generalize g0 (aS (x.held-1) 255)=y at*;generalize g0 x.made*256 ^ (x.held-1+1)=u;generalize x.cache*256 ^ (x.held-1)=v at*;generalize 256 ^ (x.held-1)=w at*;rw[hc] at d2;generalize x.low/16777216%256=a at*;generalize x.low%16777216=m at*;generalize x.low/16777216=b at*;exact‹(a+1==b)^1099511627776->(256*1+c=d)^4294967296->(16777216*d+e=f)^256->((g+(h+b+0))%256+c)%4294967296+e%256=((g+(h+a))%4294967296+f)%256› qbI d2 d1
   . simp only[aj,bQ,jE];exact‹a+b=c+1->d+1=b->a+(d+1)+1=c+1+1› h2 (ay h1)
   . intro b hb
     rcases Oo.mp hb with hb |hb
     . exact h4 b hb
     . rcases aV.mp hb with rfl |hb
       . exact‹a<256->a<=255› (bA _<|aN _)
       . obtain⟨-,rfl⟩:=List.mem_replicate.mp hb;exact‹a<256->a<=255› (bA _<|aN _)
   . dsimp only;exact‹(a<16777216)^256->(b<16777216)^256->b%256+a%256<=8589934592› hs (bA _<|aN _)
   . dsimp only;intro z
     rw[z] at d2;generalize x.low%16777216=m at*;generalize x.low/16777216=b at*;clear z;rcases q with q |q
     . exact cq<|‹(256*a+255=b)^16777216->16777216*b+c=d->d<4278190080->0==0› d2 d1 q
     . rcases hc with hc |hc
       . rw[hc] at d2;exact cq<|‹a<16777216->(256*0+255==b)^16777216->16777216*b+a==c->4294967296<=c->0==0› d3 d2 d1 q
       . rw[hc] at d2;exact‹(a+b<=8589934592)^256->(256*1+255=c)^4294967296->(16777216*c+d=a)^256->d%256+b%256<=4294967296› h5 d2 d1
 . refine af (if_neg q) ?_
   unfold Wn.num;dsimp only;have q1:4278190080<=x.low:=a8 λz=>q<|.inl z;have q2:x.low<4294967296:=xa λz=>q<|.inr z;have hb:x.low/16777216=255:=Nat.div_eq_of_lt_le (q1)<|q2;have d1:=cu x.low 16777216;rw[hb] at d1;refine⟨?_,⟨by dsimp only;exact dG _ _,by dsimp only;exact‹a+b=c+1->a+(b+1)=c+1+1› h2,h3,h4,by dsimp only;exact‹(a<16777216)^256->(b<16777216)^256->b%256+a%256<=8589934592› hs (bA _<|aN _),λz=>?_⟩⟩
   . have e2:x.made++x.cache::aS (x.held+1-1) 255=(x.made++x.cache::aS (x.held-1) 255)++[255]:=by
      refine af (show x.held+1-1=(x.held-1)+1 by exact‹a+1=b+1->c+1==b->a=c+1› (ay<|dG _ _) (ay h1))<|af d8 ?_;simp
     refine af e2<|af kD ?_;generalize x.low%16777216=m at*;exact‹(16777216*255+a=b)^256->(c%256+255)%4294967296+a%256=(c%4294967296+b)%256› d1
   . have:=h6 z
     dsimp only;generalize x.low%16777216=m at*;exact‹(a+b<=4294967296)^256->(16777216*255+c=a)^256->c%256+b%256<=4294967296› this d1
structure HJ(x:Wn)(e:ES):Prop where
 ok:x.Ok e.span e.k
 num:x.num=e.L
noncomputable def Wn.start:Wn:=⟨[],0,0,1⟩
theorem HJ.start:HJ Wn.start (ES.start ms):=⟨⟨by decide,rfl,by decide,λb hb=>(by contradiction),(by show 0+4294967295<=8589934592;decide),λz=>(by contradiction)⟩,rfl⟩
theorem HJ.grow(h:HJ x e)(d span:Nat)(hd:d+span<=e.span):HJ {x with low:=x.low+d} ⟨ms,e.L+d,span,e.k⟩:=by
 obtain⟨⟨h1,h2,h3,h4,h5,h6⟩,hn⟩:=h;refine⟨⟨h1,h2,h3,h4,by dsimp only;exact‹a+b<=c->d+c<=8589934592->d+a+b<=8589934592› hd h5,λz=>by have:=h6 z;dsimp only;exact‹a+b<=c->d+c<=4294967296->d+a+b<=4294967296› hd (h6 z)⟩,?_⟩;unfold Wn.num at hn |-;dsimp only;exact‹a%4294967296+b=c->a%4294967296+(b+d)=c+d› hn
theorem HJ.norm(h:HJ x e)(hp:0<e.span):HJ (if e.span<16777216 then x.shift else x) e.norm:=by
 unfold ES.norm
 split
 . rename_i q
   exact aT (Wn.k7 h.ok q hp) λa b=>(⟨b,by exact af a<|af h.num rfl⟩)
 . exact h
theorem Wn.Ok.mono{x:Wn}(h:x.Ok s k)(hs:s'<=s):x.Ok s' k:=⟨h.held,h.len,h.cache,h.made,az (f5 hs _) h.top,λz=>az (f5 hs _)<|h.full z⟩
theorem Wn.pW(x:Wn):x.shift.low=x.low%16777216*256:=by unfold Wn.shift;split<;>rfl
noncomputable def Wn.done(x:Wn):Wn:=x.shift.shift.shift.shift.shift
theorem Wn.EN(h:HJ x e)(hp:0<e.span):g0 x.done.made=e.L/\x.done.made.length=e.k+5/\∀b∈x.done.made,b<=255:=by
 obtain⟨ok,hn⟩:=h;have k0:=ok.mono (s':=1) hp;erw [nn λzn=>?_,aT (Wn.k7 k0 (aa rfl)<|aN _) λn1 k1=>?_,aT (Wn.k7 (k1.mono (s':=1)<|aN _) (aa rfl)<|aN _) λn2 k2=>(aT (Wn.k7 (k2.mono (s':=1)<|aN _) (aa rfl)<|aN _) λn3 k3=>(aT (Wn.k7 (k3.mono (s':=1)<|aN _) (aa rfl)<|aN _) λn4 k4=>(aT (Wn.k7 (k4.mono (s':=1)<|aN _) (aa rfl)<|aN _) λn5 k5=>?_))),zn,-zn];have l1:=x.pW;have l2:=x.shift.pW;have l3:=x.shift.shift.pW;have l4:=x.shift.shift.shift.pW;have m1:∀a,a*256%16777216=a%65536*256:=λa=>FP 256 a 65536;have m2:∀a,a*256*256%16777216=a%256*256*256:=λa=>by rw[gF,gF];exact FP (256*256) a 256
 have m3:∀a,a*256*256*256%16777216=0:=λa=>by rw[gF,gF];exact Nat.mul_mod_left a<|256*(256*256)
 have h2:x.shift.shift.low=x.low%16777216%65536*256*256:=by rw[l2,l1,m1]
 have h3:x.shift.shift.shift.low=x.low%16777216%65536%256*256*256*256:=by rw[l3,h2,m2]
 have hl4:x.shift.shift.shift.shift.low=0:=by rw[l4,h3,m3]
 have e5:x.done=⟨x.done.made,0,0,1⟩:=by
  unfold Wn.done;generalize x.shift.shift.shift.shift=y at*;unfold Wn.shift;exact af hl4<|af (if_pos<|.inl<|aN _) rfl
 have LL:x.done.num=e.L*256*256*256*256*256:=by unfold Wn.done;exact af n5<|af n4<|af n3<|af n2<|af n1<|af hn rfl
 have k5:x.done.Ok (1*256) (e.k+1+1+1+1+1):=k5;rw[e5] at LL k5;generalize x.done.made=m at*;refine(gp ?_ ?_ k5.made)
 . unfold Wn.num at LL
   dsimp only at LL;rw[show(1:Nat)-1=0 from rfl,Hz,kD] at LL;exact‹(a%256+0)%4294967296+0=b%256%256%256%256%256->(a=b)^1099511627776› LL
 . have:=k5.len
   dsimp only at this;exact‹a+1=b+1+1+1+1+1+1->a=b+5› this
theorem EO:∀{l:List Nat},(∀b∈l,b<=255)->g0 l<256 ^ l.length
 |[],_=>by simp[g0]
 |x::l,h=>by
  have h1:=EO (l:=l) λb hb=>h b<|.tail _ hb;have hx:=h x<|.head _
  have e:g0 (x::l)=x*256 ^ l.length+g0 l:=by
   have:=jB (l:=[x]) (l':=l);simpa[g0] using this
  rw[e,bQ,c3];have:x*256 ^ l.length<=255*256 ^ l.length:=kq _ hx;exact‹a<b->c<=255*b->c+a<b%256› h1 this
theorem Dn{l}(h:∀b∈l,b<=255){j}(hj:j<l.length):l[j]=g0 l/256 ^ (l.length-1-j)%256:=by
 have e:l=l.take j++l[j]::l.drop (j+1):=by exact af (List.getElem_cons_drop _)<|af (dn _ _) rfl
 have hd:(l.drop<|j+1).length=l.length-1-j:=by rwa[af jI,‹a+(b+1)=c->d+b==e->e+1==c->a=d› (ay hj) (ay<|‹a<b->b<=c+1->a<=c› hj (oM _ _)) (ay<|‹a<b->1<=b› hj)]
 have hb:g0 (l.drop<|j+1)<256 ^ (l.length-1-j):=by rwa[dq hd,EO λb hb=>h b<|List.mem_of_mem_drop hb]
 have hx:=h l[j] (f6 hj)
 have e2:g0 l=(g0 (l.take j)*256+l[j])*256 ^ (l.length-1-j)+g0 (l.drop<|j+1):=by
  have e3:l=(l.take j++[l[j]])++l.drop (j+1):=by rwa[af (ax _ _ _),e]
  have e4:=congrArg g0 e3;rw[jB,kD,hd] at e4;exact e4
 rwa[af e2 (af (eQ _ _)<|af (Nat.mul_add_div (g9<|by exact eJ _) _ _)<|af (dS hb) ?_),af (DZ _)<|af (Nat.mul_add_mod' _ _ _) (oq<|uU hx).symm]
theorem NB{K}(h:∀b∈l,b<=255)(hl:l.length=K+5)(hv:g0 l=V):J4 (l.map bz++tail) K V:=by
 intro j hj;have hjl:j<l.length:=hl▸hj
 have e:(l.map bz++tail).getD j 0=bz (l[j]'hjl):=by
  refine af (aW) (af (bF<|by simp;exact‹a==b+5->c<b+5->c<a› hl hj) ?_);simp[aI<|show j<l.length by exact‹a==b+5->c<b+5->c<a› hl hj]
 have hx:=h (l[j]'hjl)<|f6 _;refine af e (af (z9<|by simpa[UInt8.size] using uU hx)<|af (Dn h hjl)<|af hv<|af hl ?_)
 congr 3
noncomputable def ja(n:Nat):Nat->List Bool
 |0=>[]
 |c+1=>n.testBit c::ja n c
noncomputable def Av(n:Nat):Nat->List Bool
 |0=>[]
 |c+1=>n.testBit 0::Av (n/2) c
noncomputable def cE(t:TB)(start node:Nat):List Bool->List Ev
 |[]=>[]
 |b::bs=>.bit t (start+node) b::cE t start (2*node+iN b) bs
theorem NC:cE t s n []=[]:=rfl
theorem EP:cE t s n (b::bs)= .bit t (s+n) b::cE t s (2*n+iN b) bs:=rfl
def fH(start octet matched node:Nat):Nat->List Ev
 |0=>[]
 |c+1=>.bit .literals (start+(1+iN (matched.testBit c))*256+node) (octet.testBit c)::
  (if octet.testBit c=matched.testBit c then fH start octet matched (2*node+iN (octet.testBit c)) c else cE .literals start (2*node+iN (octet.testBit c)) (ja octet c))
theorem gI(n c:Nat):(ja n c).length=c:=by induction c with
 |zero=>rfl
 |succ c ih=>simp[ja,ih]
theorem iM(n c:Nat):iN (n.testBit c)=n/2 ^ c%2:=by
 erw [af Nat.testBit_eq_decide_div_mod_eq];unfold iN;have:=Nat.mod_two_eq_zero_or_one<|n/2 ^ c;rcases this with h |h<;>simp[h]
noncomputable def VC.need:VC->Prop
 |.nd p _=>p
 |.tt=>True
 |_=>False
noncomputable def VC.nx:VC->VC
 |.nd _ v=>v
 |.tt=>.tt
 |_=>.ff
noncomputable def VC.con:VC->Prop
 |.fk p _ _=>p
 |_=>False
noncomputable def VC.a:VC->VC
 |.fk _ a _=>a
 |_=>.ff
noncomputable def VC.b:VC->VC
 |.fk _ _ b=>b
 |_=>.ff
section
variable(v:VC)
theorem n1(h:v.need)(r:v.nx.H):v.H:=by
 cases v with
 |nd p w=>exact⟨h,r⟩
 |tt=>trivial
 |_=>exact h.elim
theorem nf(ha:v.con->v.a.H)(hb:¬v.con->v.b.H):v.H:=by
 cases v with
 |fk p a b=>exact⟨ha,hb⟩
 |_=>exact(hb id).elim
theorem na(h:v.con)(ha:v.a.H):v.H:=by
 cases v with
 |fk p a b=>exact⟨λz=>ha,λn=>absurd h n⟩
 |_=>exact h.elim
theorem nb(h:¬v.con)(hb:v.b.H):v.H:=by
 cases v with
 |fk p a b=>exact⟨λn=>absurd n h,λz=>hb⟩
 |_=>exact hb.elim
end
noncomputable def VC.ba:VC->VC
 |.fk _ _ (.fk _ a _)=>a
 |_=>.ff
theorem nfO(v:VC)(e:v.ba=v.a)(h:v.con\/v.b.con->v.a.H)(g:¬v.con->¬v.b.con->v.b.b.H):v.H:=nf v (λa=>h<|.inl a) λa=>nf _ (λb=>by
 have:=h<|.inr b;rw[<-e] at this
 cases v with
 |fk p x y=>cases y<;>exact this
 |_=>exact this)<|g a
noncomputable def VC.cf:VC->Nat
 |.cl _ f _ _ _=>f
 |_=>0
noncomputable def VC.ER:VC->List AV
 |.cl _ _ vs _ _=>vs
 |_=>[]
noncomputable def VC.yD:VC->List AO
 |.cl _ _ _ hp _=>hp
 |_=>[]
noncomputable def xF(hp:List AO):List AO->List AO
 |[]=>hp
 |o::os=>hp++(o::os)
theorem ND:xF hp l=hp++l:=by cases l<;>simp[xF]
def sd(hp:List AO)(js:List Nat)(hq:List AO):List AO:=xF (qG hp js<|AO.mps (i4 js hp.length)<|hq.take js.length)<|AO.mps (i4 js hp.length)<|hq.drop js.length
def VC.ck:VC->List Nat->AR->List AO->VC
 |.cl _ _ _ hp k,js,r,hq=>k (r.mp<|i4 js hp.length)<|sd hp js hq
 |_,_,_,_=>.ff
noncomputable def tI:List Nat->Bool
 |[]=>ah
 |j::js=> !(js.contains j)&&tI js
theorem fm:∀{js:List Nat},tI js=ah->js.Nodup
 |[],_=>.nil
 |j::js,h=>by
  refine aT (fj h) λa b=>?_;rw[cO];exact⟨λm=>(by rw[bk.mpr m] at a;contradiction),fm b⟩
def VC.ok:VC->List Nat->Nat->Bool
 |.cl n _ _ _ _,js,n0=>c7 n0 n&&tI js
 |_,_,_=>ao
theorem J7{hp:List AO}{js:List Nat}:∀{os:List AO},js.map (λj=>hp[j]?)=(AO.mps g os).map ae->F2 (λj o=>hp[j]? =ae (AO.mp g o)) js os:=by
 induction js with
 |nil=>intro os e;cases os with
  |nil=>exact .nil
  |cons _ _=>contradiction
 |cons j js ih=>intro os e;cases os with
  |nil=>contradiction
  |cons o os=>exact .cons (lN e).1<|ih (lN e).2
theorem ncG(v:VC)(js:List Nat){n0 m:Nat}{args:List AV}{hq:List AO}{post:AR->List AO->Prop}(pf:LV n0 v.cf m args hq post)(k:∀r h,post r h->(v.ck js r h).H)(en:v.ok js n0=ah:=by exact rfl)
 (hs:js.map (λj=>v.yD[j]?)=(AO.mps (i4 js v.yD.length) hq).map ae:=by exact rfl) (ha:v.ER=AV.mps (i4 js v.yD.length) args:=by exact rfl) (em:m=hq.length:=by exact rfl):v.H:=by
 subst em
 cases v with
 |cl n f vs hp kk=>
  refine aT (fj en) λe1 e2=>?_;have ha:vs=AV.mps (i4 js hp.length) args:=ha;erw [!ha,(LV.loc js (pf.le<|aa e1) (fm e2)<|J7 hs).mono λr h' e=>?_];obtain⟨r0,qH,p,-,rfl,rfl⟩:=e;have:=k r0 qH p;exact dq ND<|this
 |_=>contradiction
theorem nc(v:VC)(js:List Nat){n0 m}{args}{hq qH}{r0}(pf:LV n0 v.cf m args hq (bN r0 qH))(k:(v.ck js r0 qH).H)(en:v.ok js n0=ah:=by exact rfl)
 (hs:js.map (λj=>v.yD[j]?)=(AO.mps (i4 js v.yD.length) hq).map ae:=by exact rfl) (ha:v.ER=AV.mps (i4 js v.yD.length) args:=by exact rfl) (em:m=hq.length:=by exact rfl):v.H:=
 ncG v js pf (λr h e=>by rwa[aT e λaH cX=>?_,-e,!aH,!cX,k]) en hs ha em
def Wk:Frs->Frs->Prop
 |[],[]=>True
 |_::l,aq::m=>Wk l m
 |a::l,ae b::m=>a=ae b/\Wk l m
 |_,_=>False
theorem Wk.ovs:∀{fr':Frs} {vs:List (Option aG)},Wk fr fr'->A3 ω fr vs->A3 ω fr' vs:=by
 induction fr with
 |nil=>intro fr' vs w h;cases fr' with
  |nil=>exact h
  |cons _ _=>exact cq w
 |cons o fr ih=>intro fr' vs w h;cases fr' with
  |nil=>exact cq w
  |cons o' fr'=>refine F2.ec h λb m p q=>?_;cases o' with
   |none=>exact .cons trivial (ih w q)
   |some _=>exact .cons (w.1▸p)<|ih w.2 q
theorem Wk.simp(w:Wk fr fr'):ki n0 fr hp fr' hp:=λc R ω s h ⟨hl,vs,hv,H⟩=>⟨ω,.refl h,hl,vs,w.ovs hv,H⟩
def JJ{σ:Type}(inv:σ->Nat->Prop)(fo:σ->Nat->Frs)(ho:σ->Nat->List AO)(i:Nat)(fr:Frs)(hp:List AO):Prop:=∃s,inv s i/\fr=fo s i/\hp=ho s i
noncomputable def VC.tf:VC->Frs
 |.tn _ fr _ _=>fr
 |.wh fr _ _=>fr
 |.rg _ fr _ _ _=>fr
 |.fl _ fr _ _ _=>fr
 |_=>[]
noncomputable def VC.th:VC->List AO
 |.tn _ _ hp _=>hp
 |.wh _ hp _=>hp
 |.rg _ _ hp _ _=>hp
 |.fl _ _ hp _ _=>hp
 |_=>[]
def VC.tJ:VC->Frs->List AO->Prop
 |.tn _ _ _ J=>J
 |_=>λz z=>False
theorem nt{inv}{fo}{ho}(v:VC)(hJ:v.tJ=JJ inv fo ho i)(s:σ)(h:inv s i)(hf:Wk v.tf (fo s i))(hh:v.th=ho s i):v.H:=by
 cases v with
 |tn n0 fr hp J=>exact⟨fo s i,hp,hf.simp,by rwa[af (show J=_ from hJ),⟨s,h,rfl,hh⟩]⟩
 |_=>exact(show(λ(_:Frs) (_:List AO)=>False) (fo s i) (ho s i) from by rwa[af (show(λ(_:Frs) (_:List AO)=>False)=JJ inv fo ho i from hJ),⟨s,h,rfl,rfl⟩]).elim
abbrev Tu{σ:Type}(inv:σ->Nat->Prop)(fo:σ->Nat->Frs)(ho:σ->Nat->List AO)(i:Nat):Prop:=∀v:VC,v.tJ=JJ inv fo ho i->∀s,inv s i->Wk v.tf (fo s i)->v.th=ho s i->v.H
noncomputable def VC.rv:VC->List AV
 |.rg vs _ _ _ _=>vs
 |_=>[]
noncomputable def VC.rb:VC->(Frs->List AO->Prop)->Int->Frs->List AO->VC
 |.rg _ _ _ b _=>b
 |_=>λz z z z=>.ff
noncomputable def VC.lx:VC->Frs->List AO->VC
 |.rg _ _ _ _ x=>x
 |.fl _ _ _ _ x=>x
 |_=>λz z=>.ff
def l5(vs:List AV)(n:Nat)(it:Nat->Int):Prop:=∃a c,ze vs a c n/\∀i,i<n->it i=a+(i:Nat)*c
theorem l5.up{n:Nat}(h:n<=1000000):l5 [.int n] n λi=>(i:Nat):=⟨0,1,⟨h,.inl<|gp rfl rfl rfl⟩,λi y=>by dsimp only;exact‹a&&0+a%1›⟩
theorem l5.down{n:Nat}(h:n<=1000000):l5 [.int<|(n:Int)-1,.int<|-1,.int<|-1] n λi=>((n-1-i:Nat):Int):=⟨(n:Int)-1,-1,⟨h,.inr<|.inr<|gp rfl rfl rfl⟩,λi z=>by dsimp only;omega⟩
theorem nr{σ:Type}(v:VC)(n:Nat)(it:Nat->Int)(inv:σ->Nat->Prop)(fo:σ->Nat->Frs)(ho:σ->Nat->List AO)(s0:σ)(hr:l5 v.rv n it)(h0:inv s0 0)(hf:Wk v.tf (fo s0 0))(body:∀i s,i<n->inv s i->Tu inv fo ho (i+1)->(v.rb (JJ inv fo ho<|i+1) (it i) (fo s i)<|ho s i).H)(out:∀s,inv s n->(v.lx (fo s n)<|ho s n).H)(hh:v.th=ho s0 0:=by exact rfl)(hv:(match v with |.rg .. =>ah |_=>ao)=ah:=by exact rfl):v.H:=by
 cases v with
 |rg vs fr hp b x=>
  erw [n6 hr λa c h1 h2=>?_,-hr,⟨a,c,n,h1,JJ inv fo ho,⟨fo s0 0,hp,hf.simp,s0,h0,rfl,hh⟩,λi fr hp hi hJ=>?_,λfr hp hJ=>?_⟩]
  . refine dh hJ λs h aH cX=>?_;clear hJ;subst aH;subst cX
    rwa[dq (h2 i hi),body i s hi h λv hJ s'=>nt v hJ s']
  . refine dh hJ λs h aH cX=>?_;clear hJ;subst aH;subst cX
    exact out s h
 |_=>contradiction
noncomputable def VC.wb:VC->(Frs->List AO->Prop)->Frs->List AO->VC
 |.wh _ _ b=>b
 |_=>λz z z=>.ff
def JW{σ:Type}(inv:σ->Nat->Prop)(fo:σ->Nat->Frs)(ho:σ->Nat->List AO)(n:Nat)(fr:Frs)(hp:List AO):Prop:=∃m,m<n/\JJ inv fo ho m fr hp
theorem ntw{inv}{fo}{ho}(v:VC)(hJ:v.tJ=JW inv fo ho n)(s:σ)(m:Nat)(hm:m<n)(h:inv s m)(hf:Wk v.tf (fo s m))(hh:v.th=ho s m):v.H:=by
 cases v with
 |tn n0 fr hp J=>exact⟨fo s m,hp,hf.simp,by rwa[af (show J=_ from hJ),⟨m,hm,s,h,rfl,hh⟩]⟩
 |_=>exact(show(λ(_:Frs) (_:List AO)=>False) (fo s m) (ho s m) from by rwa[af (show(λ(_:Frs) (_:List AO)=>False)=JW inv fo ho n from hJ),⟨m,hm,s,h,rfl,rfl⟩]).elim
theorem nw{σ:Type}(v:VC)(inv:σ->Nat->Prop)(fo:σ->Nat->Frs)(ho:σ->Nat->List AO)(s0:σ)(n:Nat)(h0:inv s0 n)(hf:Wk v.tf (fo s0 n))(body:∀n s,inv s n->(∀v:VC,v.tJ=JW inv fo ho n->∀s' m,m<n->inv s' m->Wk v.tf (fo s' m)->v.th=ho s' m->v.H)->(v.wb (JW inv fo ho n) (fo s n)<|ho s n).H)(hh:v.th=ho s0 n:=by exact rfl)(hv:(match v with |.wh .. =>ah |_=>ao)=ah:=by exact rfl):v.H:=by
 cases v with
 |wh fr hp b=>
  rwa[⟨JJ inv fo ho,n,⟨fo s0 n,hp,hf.simp,s0,h0,rfl,hh⟩,λn fr hp hJ=>?_⟩,dh hJ λs h aH cX=>?_,-hJ,!aH,!cX,body n s h λv hJ s' m=>ntw v hJ s' m]
 |_=>contradiction
noncomputable def VC.lb:VC->(Frs->List AO->Prop)->AV->Frs->List AO->VC
 |.fl _ _ _ b _=>b
 |_=>λz z z z=>.ff
theorem nl{σ:Type}(v:VC)(xs:List AV)(inv:σ->Nat->Prop)(fo:σ->Nat->Frs)(ho:σ->Nat->List AO)(s0:σ)(h0:inv s0 0)(hf:Wk v.tf (fo s0 0))(body:∀i s x,xs[i]? =ae x->inv s i->Tu inv fo ho (i+1)->(v.lb (JJ inv fo ho<|i+1) x (fo s i)<|ho s i).H)(out:∀s,inv s xs.length->(v.lx (fo s xs.length)<|ho s xs.length).H)(hh:v.th=ho s0 0:=by exact rfl)(hx:(match v with |.fl ys .. =>ae ys |_=>aq)=ae xs:=by exact rfl):v.H:=by
 cases v with
 |fl ys fr hp b x=>
  injection hx with hx;subst hx
  refine⟨JJ inv fo ho,⟨fo s0 0,hp,hf.simp,s0,h0,rfl,hh⟩,λi fr hp v hi hJ=>?_,λfr hp hJ=>?_⟩
  . refine dh hJ λs h aH cX=>?_;clear hJ;subst aH;subst cX
    exact body i s v hi h λv hJ s'=>nt v hJ s'
  . refine dh hJ λs h aH cX=>?_;clear hJ;subst aH;subst cX
    exact out s h
 |_=>contradiction
noncomputable def AO.cls(n:Nat)(os:List AO):Bool:=AO.clh (λk=>iu k n) os
section
variable{m:Nat}{hp:List AO}
def qi(m:Nat)(h h':List AO):Prop:=∀(C:Cx) (ω:Om) (R:List bp) (s:aE),m<=ω.ρ.length->ω.ρ.length=h.length->Sat C (dR ω ω.ρ h++(tups ω.τ++R)) s->
 ∃bb,Agree m ω bb/\bb.ρ.length=h'.length/\Sat C (dR bb bb.ρ h'++(tups bb.τ++R)) s
theorem qi.gc(hc:AO.cls h0.length h0=ah)(hm:m<=h0.length):qi m (h0++g) h0:=λC ω R s h1 h2 H=>by
 have hl:h0.length<=ω.ρ.length:=by refine af h2<|af aj ?_;lia
 have ht:(ω.ρ.take h0.length).length=h0.length:=by erw [af cA];lia
 have e1:∀k,k<h0.length->(ω.ρ.take h0.length)[k]? =ω.ρ[k]? :=λk hk=>fJ hk;refine⟨⟨ω.ρ.take h0.length,ω.τ⟩,⟨h1,by show m<=(ω.ρ.take h0.length).length;lia,λi hi=>e1 i (by lia),λp hp=>hp⟩,ht,?_⟩
 have e2:dR ω ω.ρ (h0++g)=dR ω (ω.ρ.take h0.length) h0++dR ω (ω.ρ.drop h0.length) g:=by
  conv=>lhs;rw[<-dn h0.length ω.ρ]
  exact iF ht
 rw[e2] at H
 have H1:Sat C (dR ω (ω.ρ.drop h0.length) g++(dR ω (ω.ρ.take h0.length) h0++(tups ω.τ++R))) s:=H.perm (by
  refine af (ax _ _ _)<|dq (ax _ _ _)<|dq (ax (dR ω (ω.ρ.drop h0.length) g) _ _) ?_
  exact eA _ cZ)
 have H2:Sat C (dR ω (ω.ρ.take h0.length) h0++(tups ω.τ++R)) s:=by
  generalize dR ω (ω.ρ.drop h0.length) g=D at H1
  induction D with
  |nil=>exact H1
  |cons P D ih=>exact ih H1.drop
 exact H2.oW<|F2.append (AO.Ps.mv (bb:=⟨ω.ρ.take h0.length,ω.τ⟩) (c:=λk=>iu k h0.length) ⟨λk a hk e=>(e1 k<|aa hk).trans e,λz h=>h⟩ hc) F2.dK
noncomputable def AR.cl(c:Nat->Bool):AR->Bool
 |.ret v=>v.cl c
 |.exc _=>ah
theorem LV.weak(h:LV n f m args hp post')(hk:∀r h,post' r h->∃k h',m<=k/\r.cl (λj=>iu j k)=ah/\qi k h h'/\(k<=h.length/\post r h')):LV n f m args hp post:=by
 constructor;intro C A K G F rm ω vs R s Rr hv hm hl H q1 q2;refine h.run G F rm hv hm hl H (λv hp' bb w s' p ag jk hw H'=>?_) λc hp' bb a s' p ag jk H'=>?_
 . refine Vl (hk _ _ p) λk h' Z6 ee hi hkl p'=>?_
   rwa[dh (hi C bb R s' (by rwa[af jk,hkl]) jk H') λip a2 l2 H2=>?_,q1 v h' ip w s' p' (ag.trans a2 Z6) l2 (AV.Is.mv (c:=λj=>iu j k) ⟨λj b hj e=>(a2.same j<|aa hj).trans e,a2.tups⟩ v ee hw) H2]
 . refine Vl (hk _ _ p) λk h' Z6 ee hi hkl p'=>?_
   have H1:Sat C (dR bb bb.ρ hp'++(tups bb.τ++(yk a c::R))) s':=H'.perm pf;rwa[dh (hi C bb (yk a c::R) s' (by rwa[af jk,hkl]) jk H1) λip a2 l2 H2=>?_,q2 c h' ip a s' p' (ag.trans a2 Z6) l2<|H2.perm pf.symm]
noncomputable def J8(r:AR)(h:List AO)(r':AR)(h':List AO):Prop:=r'=r/\∃g,h'=h++g
theorem LV.gc(h:LV n f m args hp (J8 r0 h0))(hr:r0.cl (λj=>iu j h0.length)=ah:=by rfl)(hm:m<=h0.length:=by exact nI rfl)(hc:AO.cls h0.length h0=ah:=by rfl):LV n f m args hp (bN r0 h0):=
 h.weak λr h' e=>by
   obtain⟨rfl,g,rfl⟩:=e;exact⟨h0.length,h0,hm,hr,qi.gc hc<|aA _,by rwa[af aj,aU _ _],rfl,rfl⟩
end
theorem Sat.ET:∀{D:List bp},Sat C (a++(D++l)) s->Sat C (a++l) s
 |[],H=>H
 |P::D,H=>Sat.ET (D:=D) (H.perm dw).drop
structure Sel(m:Nat)(js:List Nat)(h h':List AO):Prop where
 nd:js.Nodup
 pre:∀k,k<m->js[k]? =some k
 os:F2 (λj o=>h[j]? =some (AO.mp (i4 js h.length) o)) js h'
noncomputable def J9:Nat->Nat->List Nat->Bool
 |_,0,_=>ah
 |i,m+1,j::js=>b0 j i&&J9 (i+1) m js
 |_,_+1,[]=>ao
theorem EU:∀{m i:Nat} {js:List Nat},J9 i m js=ah->∀k,k<m->js[k]? =ae (k+i)
 |0,_,_,_,_,hk=>(iS _ hk).elim
 |m+1,i,j::js,h,0,_=>congrArg ae<|(bK (fj h).1).trans (pJ i).symm
 |m+1,i,j::js,h,k+1,hk=>(EU (fj h).2 k<|eR hk).trans<|congrArg ae (Nat.succ_add_eq_add_succ k i).symm
theorem Sel.of(e1:(tI js&&J9 0 m js)=ah)(e3:js.map (λj=>h[j]?)=(AO.mps (i4 js h.length) h').map ae):Sel m js h h':=⟨fm (fj e1).1,EU (fj e1).2,J7 e3⟩
section
variable{ω:Om}
theorem Sel.map(σ:Sel m js h h')(hl:ω.ρ.length=h.length)(k:Nat):(js.map λj=>ω.ρ.getD j 0)[k]? =ω.ρ[i4 js h.length k]? :=by
 by_cases hk:k<js.length
 . have hj:js[k]<ω.ρ.length:=by refine af hl ?_;exact J2 σ.os _ (f6 hk)
   refine af (zx hk)<|af (dD)<|af (aI hk)<|af (oj _ _)<|af (aW)<|af (aI hj) ?_;rfl
 . unfold i4
   exact af (if_neg hk) (af (dp<|by rw[a3];exact a8 hk)<|af (dp<|by rw[hl];exact aU _ _) rfl)
theorem Sel.agree(σ:Sel m js h h')(hm:m<=ω.ρ.length)(hl:ω.ρ.length=h.length):Agree m ω ⟨js.map λj=>ω.ρ.getD j 0,ω.τ⟩:=by
 have hj:∀k,k<m->k<js.length:=λk hk=>(bg.mp<|σ.pre k hk).1;refine⟨hm,?_,λk hk=>(σ.map hl k).trans ?_,λz h=>h⟩
 . refine af (a3 _) ?_
   cases m with
   |zero=>exact cM _
   |succ m=>exact hj m<|bH m
 . refine af (zx<|hj k hk) ?_
   have:=σ.pre k hk;rw[aI<|hj k hk] at this
   (first |exact(eV this) |exact congrArg _ (eV this) |exact af (eV this) rfl)
theorem Sel.sat(σ:Sel m js h h')(hl:ω.ρ.length=h.length)(H:Sat C (dR ω ω.ρ h++(tups ω.τ++R)) s):
 Sat C (dR ⟨js.map λj=>ω.ρ.getD j 0,ω.τ⟩ (js.map λj=>ω.ρ.getD j 0) h'++(tups ω.τ++R)) s:=by
 have H1:=wH hl σ.nd (EL σ.os) H;exact(H1.oW<|F2.append (yy (ω:=⟨js.map λj=>ω.ρ.getD j 0,ω.τ⟩) (bb:=ω) (σ.map hl) rfl).2 F2.dK).ET
theorem Sel.len(σ:Sel m js h h'):(js.map λj=>ω.ρ.getD j 0).length=h'.length:=by rwa[af (a3 _),σ.os.length]
end
theorem LV.sel{hp:List AO}(h:LV n f m args hp post')(hk:∀r h1,post' r h1->∃js r' h',Sel m js h1 h'/\r=r'.mp (i4 js h1.length)/\post r' h'):LV n f m args hp post:=by
 constructor;intro C A K G F rm ω vs R s Rr hv hm hl H q1 q2;refine h.run G F rm hv hm hl H (λv hp' bb w s' p ag jk hw H'=>?_) λc hp' bb a s' p ag jk H'=>?_
 . refine nn λzn=>?_;refine xn (hk _ _ p) λjs r' h' σ e p'=>?_
   cases r' with
   |exc=>erw [zn,-zn];contradiction
   |ret v'=>
    erw [zn,-zn];injection e with e;subst e
    exact q1 v' h' _ w s' p' (ag.trans (σ.agree ag.l2 jk)<|aA _) σ.len ((EK (ω:=⟨js.map λj=>bb.ρ.getD j 0,bb.τ⟩) (σ.map jk) rfl).mpr hw)<|σ.sat jk H'
 . refine nn λzn=>?_;refine xn (hk _ _ p) λjs r' h' σ e p'=>?_
   cases r' with
   |ret=>erw [zn,-zn];contradiction
   |exc c'=>
    erw [zn,-zn];injection e with e;subst e
    have H1:Sat C (dR bb bb.ρ hp'++(tups bb.τ++(yk a c::R))) s':=H'.perm pf;exact q2 c h' _ a s' p' (ag.trans (σ.agree ag.l2 jk)<|aA _) σ.len<|(σ.sat jk H1).perm pf.symm
theorem Sel.simp{fr:Frs}(σ:Sel m js h h'):ki m (AV.Pq (i4 js h.length) fr) h fr h':=λc R ω s hm ⟨hl,vs,hv,H⟩=>
 ⟨_,σ.agree hm hl,σ.len,vs,(zw (ω:=⟨js.map λj=>ω.ρ.getD j 0,ω.τ⟩) (σ.map hl) rfl).mpr hv,(σ.sat hl<|H.perm pf).perm pf.symm⟩
theorem Sat.b9{C}{s}{X}{ω}{ρ}:∀{ds:List Nat} {hp:List AO},ρ.length=hp.length->Sat C (dR ω ρ hp++X) s->Sat C (dR ω ρ (b9 hp ds)++X) s
 |[],_,_,H=>H
 |j::ds,hp,hl,H=>Sat.b9 (ds:=ds) (by rw[cG];exact hl) (by
   cases e:hp[j]? with
   |none=>rw[List.set_eq_of_length_le<|List.getElem?_eq_none_iff.mp e];exact H
   |some o=>
    obtain⟨a,-,l,p,q⟩:=ni (ω:=ω) hl e
    exact(((H.perm<|p.append_right X).drop).emp.imp (P':=AO.P .gone ω a) λg hg=>hg).perm ((q .gone).append_right X).symm)
theorem LV.drop{hp}(ds:List Nat)(h:LV n f m args (b9 hp ds) post):LV n f m args hp post:=by
 constructor;intro C A K G F rm ω vs R s Rr hv hm hl H q1 q2;exact h.run G F rm hv (by rwa[af gf,hm]) (by rwa[af gf,hl]) (Sat.b9 hl H) q1 q2
theorem LV.pick{hp}(ds js:List Nat)(h:LV n f m args hp (bN r h1))(e1:(tI js&&J9 0 m js)=ah:=by kernel_rfl)(e3:js.map (λj=>(b9 h1 ds)[j]?)=(AO.mps (i4 js (b9 h1 ds).length) h').map ae:=by kernel_rfl)(e:r=r'.mp (i4 js (b9 h1 ds).length):=by kernel_rfl):LV n f m args hp (bN r' h'):=by
 have h2:LV n f m args hp (bN r<|b9 h1 ds):=by
  constructor;intro C A K G F rm ω vs R s Rr hv hm hl H q1 q2;refine h.run G F rm hv hm hl H (λv hp' bb w s' p ag jk hw H'=>?_) λc hp' bb a s' p ag jk H'=>?_
  . refine aT p λe0 aH=>?_;clear p;subst aH
    exact q1 v _ bb w s' ⟨e0,rfl⟩ ag (by rwa[af gf,jk]) hw<|Sat.b9 jk H'
  . refine aT p λe0 aH=>?_;clear p;subst aH
    exact q2 c _ bb a s' ⟨e0,rfl⟩ ag (by rwa[af gf,jk])<|(Sat.b9 jk<|H'.perm pf).perm pf.symm
 erw [LV.sel h2];rintro r0 h0 ⟨rfl,rfl⟩;exact⟨js,r',h',Sel.of e1 e3,e,rfl,rfl⟩
def VC.gn:VC->List Nat->VC
 |.cl n f vs hp k,ds=>.cl n f vs (b9 hp ds) k
 |v,_=>v
theorem VC.WK(ds:List Nat){v:VC}(h:(v.gn ds).H):v.H:=by
 cases v with
 |cl n f vs hp k=>
  have h:LV n f (b9 hp ds).length vs (b9 hp ds) _:=h;rw[gf] at h;exact LV.drop ds h
 |_=>exact h
noncomputable def UK(ds:List Nat)(N k:Nat):Nat:=match ds.findIdx? (b0 k) with |some i=>N+i |none=>k
def Ka(ds:List Nat)(hp:List AO):List AO:=AO.mps (UK ds hp.length)<|b9 hp ds++ds.map λj=>hp.getD j .gone
theorem WL{hp:List AO}{ω:Om}(hl:ω.ρ.length=hp.length)(hd:∀j∈ds,j<hp.length)(k:Nat):(ω.ρ++ds.map λj=>ω.ρ.getD j 0)[k]? =(ω.ρ++ds.map λj=>ω.ρ.getD j 0)[UK ds hp.length k]? :=by
 unfold UK
 cases e:ds.findIdx? (b0 k) with
 |none=>rfl
 |some i=>
  obtain⟨h1,h2,-⟩:=tW.mp e;have h2:=bK h2;have hk:k<ω.ρ.length:=by rwa[af hl<|af h2 ?_,hd _<|f6 h1]
  show _=(ω.ρ++ds.map λj=>ω.ρ.getD j 0)[hp.length+i]?;refine af (bF hk) (af (fh<|by rw[hl];exact aU _ _)<|af hl<|af (i9 _ _)<|af (dD)<|af (aI h1)<|af (oj _ _)<|dq h2<|af (aW)<|af (aI hk) ?_);rfl
theorem ki.move(nd:ds.Nodup)(hd:∀j∈ds,j<hp.length):ki hp.length fr hp (AV.Pq (UK ds hp.length) fr) (Ka ds hp):=λc R ω s hm ⟨hl,vs,hv,H⟩=>by
 have ext:mh ω ⟨ω.ρ++ds.map λj=>ω.ρ.getD j 0,ω.τ⟩:=⟨aA _,by rwa[af aj,aU _ _],λi hi=>bF hi,λz h=>h⟩;have h1:=WL hl hd;generalize WM:(⟨ω.ρ++ds.map λj=>ω.ρ.getD j 0,ω.τ⟩:Om)=bb at ext;have er:bb.ρ=ω.ρ++ds.map λj=>ω.ρ.getD j 0:=by(first |exact WM.symm |exact congrArg _ WM.symm |exact dq WM rfl)
 have et:bb.τ=ω.τ:=by rw[<-WM]
 rw[<-er] at h1
 have Lx:F2 (λj o=>hp[j]? =ae o) ds (ds.map λj=>hp.getD j .gone):=by
  clear nd h1 WM er et ext
  induction ds with
  |nil=>exact .nil
  |cons j js ih=>exact .cons (by dsimp only;rwa[af (aW)<|af (aI<|hd j<|.head _) ?_,qa0 _])<|ih λk hk=>hd k<|.tail _ hk
 have H1:=wH hl nd Lx<|H.perm pf;refine⟨bb,by unfold mh at ext;rw[hl] at ext;exact ext,?_,vs,(zw (g:=UK ds hp.length) (ω:=bb) (bb:=bb) h1<|qa0 _).mp<|hv.ext ext,?_⟩
 . rw[er,Ka,nu,aj,aj,gf,a3,a3,hl]
 . have H2:=H1.oW (F2.append (AO.Ps.ext ext)<|F2.append (AO.Ps.ext ext) F2.dK)
   have H3:Sat c.C (dR bb bb.ρ (b9 hp ds++ds.map λj=>hp.getD j .gone)++(tups bb.τ++(ml c.L c.ns vs::R))) s:=by
    rwa[af er (af et<|af (iF<|by rw[gf];exact hl)<|af (ax _ _ _) ?_),H2.perm,dq (ax _ _ _)<|dq (ax (dR bb ω.ρ<|b9 hp ds) _ _) ?_,eA _ cZ]
   exact(H3.oW<|F2.append (yy (g:=UK ds hp.length) (ω:=bb) (bb:=bb) h1<|qa0 _).1 F2.dK).perm pf.symm
structure VC.G(v:VC):Prop where
 h:v.H
theorem k1(v:VC){P}(h:P)(r:v.nx.G)(e:v.need=P:=by kernel_rfl):v.G:=⟨n1 v (e▸h) r.h⟩
theorem ka(v:VC){P}(h:P)(r:v.a.G)(e:v.con=P:=by kernel_rfl):v.G:=⟨na v (e▸h) r.h⟩
theorem kb(v:VC){P}(h:¬P)(r:v.b.G)(e:v.con=P:=by kernel_rfl):v.G:=⟨nb v (e▸h) r.h⟩
theorem kf(v:VC){P}(ha:P->v.a.G)(hb:¬P->v.b.G)(e:v.con=P:=by kernel_rfl):v.G:=⟨nf v (e▸λp=>(ha p).h)<|e▸λp=>(hb p).h⟩
theorem kz(v:VC){P}(h:P)(e:v.need=P:=by kernel_rfl)(e2:v.nx= .tt:=by kernel_rfl):v.G:=⟨n1 v (e▸h)<|by erw [af e2];trivial⟩
theorem kC(v:VC)(js:List Nat){n0 m f}{args}{hq qH}{r0}(pf:LV n0 f m args hq (bN r0 qH))(k:(v.ck js r0 qH).G)(ef:v.cf=f:=by kernel_rfl)(en:v.ok js n0=ah:=by kernel_rfl)
 (hs:js.map (λj=>v.yD[j]?)=(AO.mps (i4 js v.yD.length) hq).map ae:=by kernel_rfl) (ha:v.ER=AV.mps (i4 js v.yD.length) args:=by kernel_rfl) (em:m=hq.length:=by kernel_rfl):v.G:=
 ⟨nc v js (ef▸pf) k.h en hs ha em⟩
def VC.ql(v:VC)(js:List Nat)(n0 m:Nat):Nat×Bool×List (Option AO)×List AV×Nat:=(v.cf,v.ok js n0,js.map λj=>v.yD[j]?,v.ER,m)
def VC.qr(v:VC)(js:List Nat)(f:Nat)(args:List AV)(hq:List AO):Nat×Bool×List (Option AO)×List AV×Nat:=(f,ah,(AO.mps (i4 js v.yD.length) hq).map ae,AV.mps (i4 js v.yD.length) args,hq.length)
theorem kc(v:VC)(js:List Nat){n0 m f}{args}{hq qH}{r0}(pf:LV n0 f m args hq (bN r0 qH))(k:(v.ck js r0 qH).G)(e:v.ql js n0 m=v.qr js f args hq:=by kernel_rfl):v.G:=
 have h1:=cW e;have h2:=cW h1.2;have h3:=cW h2.2;have h4:=cW h3.2
 kC v js pf k h1.1 h2.1 h3.1 h4.1 h4.2
theorem kd(v:VC)(ds:List Nat)(h:(v.gn ds).G):v.G:=⟨VC.WK ds h.h⟩
theorem Dk.one(h:Dk f k r is)(e:args.length=k)(hw:∀post:AR->List AO->Prop,post r0 h0->(kX n is (args.map ae++aS r aq) hp post).G):LV (n+1) f m args hp (bN r0 h0):=h.enter e (hw _ ⟨rfl,rfl⟩).h
theorem eX{v:VC}(h:let V:=v;V.G):v.G:=h
theorem pn{v:VC}(h:let V:=v;V.H):v.H:=h
noncomputable def mg:Frs->Frs->Frs
 |[],_=>[]
 |_::_,[]=>[aq]
 |none::l,a::m=>a::mg l m
 |some b::l,_::m=>ae b::mg l m
theorem Wk.of:∀{fr:Frs},fr=mg fo fr->Wk fr fo:=by
 induction fo with
 |nil=>intro fr e;have e:fr=[]:=e;subst e;trivial
 |cons o l ih=>intro fr e;cases fr with
  |nil=>cases o<;>contradiction
  |cons a m=>cases o with
   |none=>exact ih (lN e).2
   |some b=>exact⟨(lN e).1,ih (lN e).2⟩
noncomputable def VC.isR(v:VC):Bool:=match v with |.rg .. =>ah |_=>ao
noncomputable def VC.isW(v:VC):Bool:=match v with |.wh .. =>ah |_=>ao
noncomputable def VC.lxs(v:VC):Option (List AV):=match v with |.fl ys .. =>ae ys |_=>aq
section
variable{σ:Type}{inv:σ->Nat->Prop}{fo:σ->Nat->Frs}{ho:σ->Nat->List AO}{i n:Nat}
structure TG(inv:σ->Nat->Prop)(fo:σ->Nat->Frs)(ho:σ->Nat->List AO)(i:Nat):Prop where
 go:∀v:VC,v.tJ=JJ inv fo ho i->∀s,inv s i->Wk v.tf (fo s i)->v.th=ho s i->v.H
theorem TG.at(tu:TG inv fo ho i)(v:VC)(s:σ)(h:inv s i)(e:v.tf=mg (fo s i) v.tf:=by kernel_rfl)(hh:v.th=ho s i:=by kernel_rfl)(hJ:v.tJ=JJ inv fo ho i:=by kernel_rfl):v.G:=⟨tu.go v hJ s h (.of e) hh⟩
theorem TG.by(tu:TG inv fo ho i)(v:VC)(s:σ)(h:inv s i)(F:Int->Frs){x y}(WN:x=y)(e1:v.tf=F x:=by kernel_rfl)(e2:F y=mg (fo s i) (F y):=by kernel_rfl)(hh:v.th=ho s i:=by kernel_rfl)(hJ:v.tJ=JJ inv fo ho i:=by kernel_rfl):v.G:=
 ⟨tu.go v hJ s h (by refine af e1<|af WN ?_;exact .of e2) hh⟩
structure TW(inv:σ->Nat->Prop)(fo:σ->Nat->Frs)(ho:σ->Nat->List AO)(n:Nat):Prop where
 go:∀v:VC,v.tJ=JW inv fo ho n->∀s m,m<n->inv s m->Wk v.tf (fo s m)->v.th=ho s m->v.H
theorem TW.at(tu:TW inv fo ho n)(v:VC)(s:σ)(m:Nat)(hm:m<n)(h:inv s m)(e:v.tf=mg (fo s m) v.tf:=by kernel_rfl)(hh:v.th=ho s m:=by kernel_rfl)(hJ:v.tJ=JW inv fo ho n:=by kernel_rfl):v.G:=⟨tu.go v hJ s m hm h (.of e) hh⟩
theorem TW.by(tu:TW inv fo ho n)(v:VC)(s:σ)(m:Nat)(hm:m<n)(h:inv s m)(F:Int->Frs){x y}(WN:x=y)(e1:v.tf=F x:=by kernel_rfl)(e2:F y=mg (fo s m) (F y):=by kernel_rfl)(hh:v.th=ho s m:=by kernel_rfl)(hJ:v.tJ=JW inv fo ho n:=by kernel_rfl):v.G:=
 ⟨tu.go v hJ s m hm h (by refine af e1<|af WN ?_;exact .of e2) hh⟩
theorem kr(v:VC)(n:Nat)(it:Nat->Int)(inv:σ->Nat->Prop)(fo:σ->Nat->Frs)(ho:σ->Nat->List AO)(s0:σ){vs}(hr:l5 vs n it)(h0:inv s0 0)(body:∀i s,i<n->inv s i->TG inv fo ho (i+1)->(v.rb (JJ inv fo ho<|i+1) (it i) (fo s i)<|ho s i).G)
 (out:∀s,inv s n->(v.lx (fo s n)<|ho s n).G) (ev:v.rv=vs:=by kernel_rfl) (hf:v.tf=mg (fo s0 0) v.tf:=by kernel_rfl) (hh:v.th=ho s0 0:=by kernel_rfl) (hv:v.isR=ah:=by kernel_rfl):v.G:=
 ⟨nr v n it inv fo ho s0 (ev▸hr) h0 (.of hf) (λi s hi hs tu=>(body i s hi hs ⟨tu⟩).h) (λs hs=>(out s hs).h) hh<|by cases v<;>first |exact hv |cases hv⟩
theorem kw(v:VC)(inv:σ->Nat->Prop)(fo:σ->Nat->Frs)(ho:σ->Nat->List AO)(s0:σ)(n:Nat)(h0:inv s0 n)(body:∀n s,inv s n->TW inv fo ho n->(v.wb (JW inv fo ho n) (fo s n)<|ho s n).G)(hf:v.tf=mg (fo s0 n) v.tf:=by kernel_rfl)(hh:v.th=ho s0 n:=by kernel_rfl)(hv:v.isW=ah:=by kernel_rfl):v.G:=
 ⟨nw v inv fo ho s0 n h0 (.of hf) (λn s hs tu=>(body n s hs ⟨tu⟩).h) hh<|by cases v<;>first |exact hv |cases hv⟩
theorem kl(v:VC)(xs:List AV)(inv:σ->Nat->Prop)(fo:σ->Nat->Frs)(ho:σ->Nat->List AO)(s0:σ)(h0:inv s0 0)(body:∀i s x,xs[i]? =ae x->inv s i->TG inv fo ho (i+1)->(v.lb (JJ inv fo ho<|i+1) x (fo s i)<|ho s i).G)(out:∀s,inv s xs.length->(v.lx (fo s xs.length)<|ho s xs.length).G)(hf:v.tf=mg (fo s0 0) v.tf:=by kernel_rfl)(hh:v.th=ho s0 0:=by kernel_rfl)(hx:v.lxs=ae xs:=by kernel_rfl):v.G:=
 ⟨nl v xs inv fo ho s0 h0 (.of hf) (λi s x hx hs tu=>(body i s x hx hs ⟨tu⟩).h) (λs hs=>(out s hs).h) hh<|by cases v<;>first |exact hx |cases hx⟩
end
theorem kg(v:VC)(js:List Nat){n0 m f}{args}{hq}{post}(pf:LV n0 f m args hq post)(k:∀r h,post r h->(v.ck js r h).G)(e:v.ql js n0 m=v.qr js f args hq:=by kernel_rfl):v.G:=
 have h1:=cW e;have h2:=cW h1.2;have h3:=cW h2.2;have h4:=cW h3.2
 ⟨ncG v js (h1.1▸pf) (λr h p=>(k r h p).h) h2.1 h3.1 h4.1 h4.2⟩
def se(os:List AO)(a:br):bp:=λg=>∃as:List br,as.length+1=os.length/\SL (dR ⟨a::as,[]⟩ (a::as) os) g
noncomputable def og(p N k:Nat):Nat:=match k with |0=>p |k+1=>N+k
def jC(p:Nat)(o:AO)(os h:List AO):List AO:=h.set p (o.mp<|og p h.length)++AO.mps (og p h.length) os
noncomputable def NF(o:AO):Option Nat:=match o with |.inst c _=>ae c |_=>aq
noncomputable def AV.nt(a:AV):Bool:=match a with |.tup _=>ao |_=>ah
noncomputable def OV.nt(a:Option AV):Bool:=match a with |some a=>a.nt |none=>ah
noncomputable def AO.nt(o:AO):Bool:=match o with
 |.inst _ vs=>vs.all OV.nt
 |.lst xs=>xs.all AV.nt
 |.ba _=>ah
 |.tab _ _=>ah
 |.dct _=>ah
 |.gone=>ah
 |.own _ _=>ah
 |_=>ao
section
variable{os:List AO}
theorem AV.Pu{a:AV}(hn:a.nt=ah)(x:a.Is ⟨ρ,τ⟩ v):a.Is ⟨ρ,τ'⟩ v:=by
 cases a with
 |tup _=>contradiction
 |_=>exact x
theorem AO.qbJ{o:AO}(hn:o.nt=ah)(x:o.P ⟨ρ,τ⟩ a g):o.P ⟨ρ,τ'⟩ a g:=by
 cases o with
 |inst _ vs=>exact cR (λvs=>jr λh=>F2.mv h (λa b q y=>by
  cases a with
  |none=>exact y
  |some a=>cases b with |none=>exact y |some b=>exact AV.Pu (a:=a) q y) hn) x
 |lst _=>exact cR (λvs=>jr λh=>F2.mv h (λa z q y=>AV.Pu q y) hn) x
 |ba _=>exact x
 |tab _ _=>exact x
 |dct _=>exact x
 |gone=>exact x
 |own _ _=>exact x
 |_=>contradiction
theorem Pw:∀{os:List AO} {as:List br},os.all AO.nt=ah->F2 PI (AO.Ps os ⟨ρ,τ⟩ as) (AO.Ps os ⟨ρ,τ'⟩ as)
 |[],_,_=>.nil
 |_::_,[],_=>.nil
 |_::_,_::_,q=>.cons (λz x=>AO.qbJ (aQ.mp q).1 x)<|Pw (aQ.mp q).2
theorem Kb{ω:Om}{h:List AO}(hl:ω.ρ.length=h.length)(ea:ω.ρ[p]? =ae a)(k:Nat):(a::as)[k]? =(ω.ρ++as)[og p h.length k]? :=by
 cases k with
 |zero=>exact((bF (bg.mp ea).1).trans ea).symm
 |succ k=>exact((fh<|by show _<=h.length+k;rwa[af hl,aU _ _]).trans (congrArg (as[·]?)<|by rwa[af hl,i9 _ _])).symm
theorem Kc(hi:NF o=ae kk)(h:se (o::os) a g):∃vs g1 g2,g=g1++g2/\lO a kk (eG kk) vs g1:=by
 obtain⟨as,-,g1,g2,rfl,h1,-⟩:=h
 cases o with
 |inst c vs=>
  injection hi with hi;subst hi
  obtain⟨vs',-,h2⟩:=h1;exact(Me vs' g1 g2 rfl h2)
 |_=>contradiction
theorem NG(hl:ω.ρ.length=h.length)(e:h[p]? =ae (.own kk<|se<|o::os))(H:Sat C (dR ω ω.ρ h++R) s):∃as:List br,as.length=os.length/\Sat C (dR ⟨ω.ρ++as,ω.τ⟩ (ω.ρ++as) (jC p o os h)++R) s:=by
 have hp:p<h.length:=(bg.mp e).1;have H1:=wH (js:=[p]) hl (fm (js:=[p]) rfl) (.cons e .nil) H;have ea:ω.ρ[p]? =ae (ω.ρ.getD p 0):=by refine af (aW) (af (aI<|by rwa[af hl,hp]) ?_);rfl
 generalize ha:ω.ρ.getD p 0=a at ea;rw[show(nY (λj=>ω.ρ.getD j 0) [p])=[a] from congrArg (λx=>[x]) ha] at H1;erw [nn λzn=>?_,c4 (Sat.ex.mp<|(show Sat C (AO.P (.own kk<|se<|o::os) ω a::(dR ω ω.ρ (b9 h [p])++R)) s from H1).imp (P':=se (o::os) a) λg hg=>hg.1) λas H2=>?_,aT (Sat.pure.mp H2) λhn H3=>?_,zn,-zn];have H4:=Sat.unpack.mp H3;have ext:mh ω ⟨ω.ρ++as,ω.τ⟩:=⟨aA _,by rwa[af aj,aU _ _],λi hi=>bF hi,λz h=>h⟩;refine(bV as (gN hn) ?_);have H5:=H4.oW<|F2.append (AO.Ps.mv (ω:=⟨a::as,[]⟩) (bb:=⟨a::as,ω.τ⟩) (c:=λz=>ah) ⟨λz z z e=>e,λp hp=>(nomatch hp)⟩<|a4.mpr λo z=>o.nh)<|F2.append (AO.Ps.ext ext) F2.dK;have H6:=H5.oW<|F2.append (yy (ω:=⟨a::as,ω.τ⟩) (bb:=⟨ω.ρ++as,ω.τ⟩) (g:=og p h.length) (Kb hl ea) rfl).1 F2.dK;generalize(⟨ω.ρ++as,ω.τ⟩:Om)=da at H6
 have H7:Sat C (dR da ([p].map λj=>ω.ρ.getD j 0) [o.mp<|og p h.length]++(dR da ω.ρ (b9 h [p])++(dR da as (AO.mps (og p h.length) os)++R))) s:=by
  erw [af (show(nY (λj=>ω.ρ.getD j 0) [p])=[a] from congrArg (λx=>[x]) ha),H6.perm<|iQ _ ?_];show(dR da as (AO.mps (og p h.length) os)++(dR da ω.ρ (b9 h [p])++R)).Perm (dR da ω.ρ (b9 h [p])++(dR da as (AO.mps (og p h.length) os)++R));rwa[dq (ax _ _ _)<|dq (ax _ _ _) ?_,eA _ cZ]
 have H8:=J1 (js:=[p]) hl (fm (js:=[p]) rfl) (λj hj=>by rwa[af (HU.mp hj),hp]) rfl H7;show Sat C (dR da (ω.ρ++as) (h.set p (o.mp<|og p h.length)++AO.mps (og p h.length) os)++R) s;rwa[af (iF<|by rwa[af cG,hl])<|af (ax _ _ _) ?_,H8]
theorem Bq(hl:ω.ρ.length=(jC p o os h).length)(e:h[p]? =ae (.own kk<|se<|o::os))(hi:NF o=ae kk)(hn:(o::os).all AO.nt=ah)(hc:AO.cls h.length (b9 h [p])=ah)(H:Sat C (dR ω ω.ρ (jC p o os h)++R) s):Sat C (dR ⟨ω.ρ.take h.length,ω.τ⟩ (ω.ρ.take h.length) h++R) s:=by
 have hp:p<h.length:=(bg.mp e).1;have HZ:(jC p o os h).length=h.length+os.length:=by rw[jC,aj,cG,nu]
 have ht:(ω.ρ.take h.length).length=h.length:=by rwa[af cA<|af hl<|af HZ ?_,lh<|aU _ _]
 have e0:ω.ρ=ω.ρ.take h.length++ω.ρ.drop h.length:=(dn _ _).symm;generalize hρ:ω.ρ.take h.length=ρ at ht e0;generalize has:ω.ρ.drop h.length=as at e0;have han:as.length=os.length:=by rwa[dq has<|af jI<|af hl<|af HZ ?_,i9 _ _]
 have H1:Sat C (dR ω ρ (h.set p<|o.mp<|og p h.length)++(dR ω as (AO.mps (og p h.length) os)++R)) s:=by
  have H0:=H
  conv at H0=>arg 2;rw[e0]
  rw[jC,iF (by rwa[af cG,ht]),ax] at H0;exact H0
 have H2:=wH (js:=[p]) (os:=[o.mp<|og p h.length]) (by rwa[af cG,ht]) (fm (js:=[p]) rfl) (.cons (oJ hp) .nil) H1;have ea:ρ[p]? =ae (ρ.getD p 0):=by refine af (aW) (af (aI<|by rwa[af ht,hp]) ?_);rfl
 generalize ha:ρ.getD p 0=a at ea;rw[show(nY (λj=>ρ.getD j 0) [p])=[a] from congrArg (λx=>[x]) ha] at H2;have eg:b9 (h.set p<|o.mp<|og p h.length) [p]=b9 h [p]:=uE ..;rw[eg] at H2
 have H3:Sat C (dR ω (a::as) (AO.mps (og p h.length)<|o::os)++(dR ω ρ (b9 h [p])++R)) s:=by
  refine H2.perm<|iQ _ ?_;show(dR ω ρ (b9 h [p])++(dR ω as (AO.mps (og p h.length) os)++R)).Perm (dR ω as (AO.mps (og p h.length) os)++(dR ω ρ (b9 h [p])++R));rwa[dq (ax _ _ _)<|dq (ax _ _ _) ?_,eA _ cZ]
 have H4:=H3.oW (F2.append (yy (ω:=⟨a::as,ω.τ⟩) (bb:=ω) (g:=og p h.length) (λk=>by refine af e0 ?_;exact Kb (ω:=⟨ρ,[]⟩) ht ea k) rfl).2<|F2.append (AO.Ps.mv (ω:=ω) (bb:=⟨ρ,ω.τ⟩) (c:=λk=>iu k h.length) ⟨λk b hk e'=>by
  rw[e0,bF<|by refine af ht ?_;exact aa hk] at e';exact e',λz m=>m⟩ hc) F2.dK)
 have H5:=H4.oW<|F2.append (Pw (τ':=[]) hn) F2.dK;have H6:Sat C (se (o::os) a::(dR ⟨ρ,ω.τ⟩ ρ (b9 h [p])++R)) s:=Sat.ex.mpr ⟨as,Sat.pure.mpr ⟨by erw [af han];rfl,Sat.unpack.mpr H5⟩⟩;have H7:=J1 (ω:=⟨ρ,ω.τ⟩) (ρ:=ρ) (js:=[p]) (hp:=h) (os:=[.own kk<|se<|o::os]) ht (fm (js:=[p]) rfl) (λj hj=>by rwa[af (HU.mp hj),hp]) rfl (by rwa[af (show(nY (λj=>ρ.getD j 0) [p])=[a] from congrArg (λx=>[x]) ha),H6.imp λg hg=>⟨hg,Kc hi hg⟩]);rw[show qG h [p] [.own kk<|se<|o::os]=h from uF λi=>by show(h.set p _)[i]? =_;refine af (List.getElem?_set) ?_;split<;>(try rename_i q;first |(refine dq q ?_;exact e.symm) |(split<;>first |(rename_i q _;rw[<-q];exact e.symm) |rfl) |rfl)] at H7;exact H7
end
def eI(o o':AO):Prop:=∀ω a g,o.P ω a g->o'.P ω a g
theorem vn(o:F2 eI h h'):∀{as:List br},F2 PI (dR ω as h) (dR ω as h'):=by
 induction o with
 |nil=>intro as;cases as<;>exact .nil
 |cons p _ ih=>intro as;cases as with |nil=>exact .nil |cons a as=>exact .cons (p ω a) ih
theorem qi.obj(o:F2 eI h h'):qi k h h':=λC ω R s h1 h2 H=>(oK ω (.refl h1) (h2.trans o.length)<|H.oW<|F2.append (vn o) F2.dK)
section
variable{n f m k kk:Nat}{args:List AV}{hp h:List AO}{post:AR->List AO->Prop}
theorem LV.mle(k:LV n f m args hp post)(e:m'<=m)(e2:m<=hp.length):LV n f m' args hp post:=by
 constructor;intro C A K G F rm ω vs R s Rr hv hm hl H q1 q2;exact k.run G F rm hv e2 hl H (λv hp' bb w s' p ag=>q1 v hp' bb w s' p<|ag.le e) λc hp' bb a s' p ag=>q2 c hp' bb a s' p<|ag.le e
theorem LV.from(o:F2 eI hp h)(k:LV n f m args h post):LV n f m args hp post:=by
 constructor;intro C A K G F rm ω vs R s Rr hv hm hl H q1 q2;exact k.run G F rm hv (by rwa[dq o.length,hm]) (hl.trans o.length) (H.oW<|F2.append (vn o) F2.dK) q1 q2
theorem LV.opn(p:Nat){o}{os}(e:hp[p]? =ae (.own kk<|se<|o::os))(k:LV n f m args (jC p o os hp) post)(hm':m<=hp.length):LV n f m args hp post:=by
 constructor;intro C A K G F rm ω vs R s Rr hv hm hl H q1 q2;refine aK (NG hl e H) λas hn H1=>?_;have ext:mh ω ⟨ω.ρ++as,ω.τ⟩:=⟨aA _,by rwa[af aj,aU _ _],λi hi=>bF hi,λz h=>h⟩;have fX:(jC p o os hp).length=hp.length+os.length:=by rw[jC,aj,cG,nu]
 have am:Agree m ω ⟨ω.ρ++as,ω.τ⟩:=ext.le (by rwa[af hl,hm]);exact k.run G F rm (ω:=⟨ω.ρ++as,ω.τ⟩) (hv.ext ext) (by rwa[af fX,az hm<|aU _ _]) (af fX<|af aj<|af hl<|af hn rfl) H1 (λv hp' bb w s' p ag=>q1 v hp' bb w s' p<|am.trans ag<|aA _) λc hp' bb a s' p ag=>q2 c hp' bb a s' p<|am.trans ag<|aA _
structure Shuts(p m kk:Nat)(o:AO)(os h:List AO)(r:AR):Prop where
 at_:h[p]? =some (.own kk<|se<|o::os)
 cls:NF o=some kk
 nt:((o::os).all AO.nt&&AO.cls h.length (b9 h [p])&&r.cl (λk=>Nat.blt k h.length)&&Nat.ble m h.length)=true
theorem LV.shut(k:LV n f m args hp post')(hk:∀r h1,post' r h1->∃p kk o os h,h1=jC p o os h/\Shuts p m kk o os h r/\post r h):LV n f m args hp post:=by
 constructor;intro C A K G F rm ω vs R s Rr hv hm hl H q1 q2;have key:∀{bb:Om} {h:List AO},h.length<=bb.ρ.length->m<=h.length->Agree m bb ⟨bb.ρ.take h.length,bb.τ⟩:=λ{bb h} h1 h2=>⟨az h2 h1,by show m<=(bb.ρ.take h.length).length;rwa[af cA<|af (lh h1) ?_,h2],λi hi=>fJ<|aJ hi h2,λz h=>h⟩;refine k.run G F rm hv hm hl H (λv hp' bb w s' q ag jk hw H'=>?_) λc hp' bb a s' q ag jk H'=>?_
 . refine nn λzn=>?_;refine Ii (hk _ _ q) λp kk o os h aH cX hq=>?_;subst aH;obtain⟨sa,si,sn⟩:=cX
   erw [aT (fj sn) λsn s4=>(aT (fj sn) λsn s3=>(aT (fj sn) λs1 s2=>?_)),zn,-zn];have nZ:h.length<=bb.ρ.length:=by rw[jk,jC,aj,cG];exact aU _ _
   have a2:=key nZ<|aa s4;exact q1 v h _ w s' hq (ag.trans a2<|aA _) (by show(bb.ρ.take h.length).length=_;rwa[af cA,lh nZ]) (AV.Is.mv (ω:=bb) (bb:=⟨bb.ρ.take h.length,bb.τ⟩) (c:=λk=>iu k h.length) ⟨λk b hk e=>(fJ<|aa hk).trans e,λz h=>h⟩ v s3 hw)<|Bq jk sa si s1 s2 H'
 . refine nn λzn=>?_;refine Ii (hk _ _ q) λp kk o os h aH cX hq=>?_;subst aH;obtain⟨sa,si,sn⟩:=cX
   erw [aT (fj sn) λsn s4=>(aT (fj sn) λsn s3=>(aT (fj sn) λs1 s2=>?_)),zn,-zn];have nZ:h.length<=bb.ρ.length:=by rw[jk,jC,aj,cG];exact aU _ _
   have a2:=key nZ<|aa s4;exact q2 c h _ a s' hq (ag.trans a2<|aA _) (by show(bb.ρ.take h.length).length=_;rwa[af cA,lh nZ])<|(Bq jk sa si s1 s2<|H'.perm pf).perm pf.symm
theorem LV.oc(p kk:Nat){o o'}{os os'}{r}(k:LV n f m args (jC p o os hp) (bN r<|jC p o' os' h))(e:hp[p]? =ae (.own kk<|se<|o::os):=by kernel_rfl)(hm:c7 m hp.length=ah:=by kernel_rfl)(e2:h[p]? =ae (.own kk<|se<|o'::os'):=by kernel_rfl)
 (ei:NF o'=ae kk:=by kernel_rfl) (e3:((o'::os').all AO.nt&&AO.cls h.length (b9 h [p])&&r.cl (λk=>iu k h.length)&&c7 m h.length)=ah:=by kernel_rfl):LV n f m args hp (bN r h):=
 LV.opn p e (LV.shut k λr1 h1 q=>by rwa[aT q λaH cX=>?_,-q,!aH,!cX,⟨p,kk,o',os',h,rfl,⟨e2,ei,e3⟩,rfl,rfl⟩]) (aa hm)
end
noncomputable def zy(i:Nat):List gK:=((lX[i]?.bind Cv).map (·.2.1)).getD []
noncomputable def NH:Expr:=(((qO<|qbh<|(zy 81).getD 2 default).map (·.2.1)).getD []).getD 0 default
noncomputable abbrev SK:=List IE×List IS
noncomputable def SK.e(k:SK)(n:Nat):IE:=k.1.getD n .bad
noncomputable def SK.s(k:SK)(n:Nat):IS:=k.2.getD n .bad
noncomputable def SK.pe(k:SK)(n:Nat)(e:IE):SK:=(e::k.1.drop n,k.2)
noncomputable def SK.ps(k:SK)(n m:Nat)(s:IS):SK:=(k.1.drop n,s::k.2.drop m)
noncomputable def Sv(a:Nat):qz:=[Operator.Add,.Sub,.Mult,.MatMult,.Div,.Mod,.Pow,.LShift,.RShift,.BitOr,.BitXor,.BitAnd,.FloorDiv].getD a .Add
noncomputable def WO(a:Nat):lK:=[CmpOp.Eq,.NotEq,.Lt,.LtE,.Gt,.GtE,.Is,.IsNot,.In,.NotIn].getD a .Eq
noncomputable def NI(a:Nat):IE:=([.kB<|.raw<|kM 12,.kB<|.raw<|.ref 39,.kB<|.int 12,.kB<|.int 16,.kB<|.int 4,.kB<|.int 14,.kB<|.int 768,.kB<|.int 2,.kB<|.int 8,.kB<|.int 3,.kB<|.int 6,.cs<|ab "match",.cs<|ab "rep",.cs<|ab "end",.cs<|ab "packets behind an end mark",.cs<|ab "octets",.cs<|ab "lit",.kB<|.int 4294967296,.cy [],.cs<|ab "neither a size nor an end mark",.kB<|.raw<|.ref 595,.cs<|ab "a piece of less than nothing",.kB<|.raw<|kM 0,.kB<|.raw<|kM 9,.kB<|.raw<|kM 11,.kB<|.raw<|.ref 676,.cs<|ab "step",.cs<|ab "short",.kB<|.int 273,.cs<|ab "a text without the octets behind",.kB<|.raw<|.ref 791,.cs<|ab "distance",.cs<|ab "length",.cs<|ab "octet",.cs<|ab "index",.cs<|ab "steps beyond the text",.cs<|ab "a step beside the text",.cs<|ab "start or end",.kB<|.int 4294967295,.cs<|ab "first octet of a range coder",.kB<|.int 5,.cs<|ab "code not below its span",.oth NH]:List IE).getD a .bad
noncomputable def Sw(a:Nat):Tg:=([.many [.loc 2,.loc 3],.one<|.loc 3,.many [.loc 4,.loc 5],.one<|.loc 6,.one<|.loc 5,.one<|.loc 7,.one<|.loc 4,.one<|.loc 2,.many [.loc 3,.loc 4,.loc 5],.many [.loc 1,.loc 2],.many [.loc 3,.loc 4]]:List Tg).getD a<|.one<|.loc 0
def Kd:List (Nat->SK->SK):=[λa k=>k.pe 0<|.ci a,λa k=>k.pe 0<|.cb<|b0 a 1,λa k=>k.pe 0<|.loc a,λa k=>k.pe 0<|NI a,λa k=>k.pe 0<|NI a,λa k=>k.pe 0<|NI a,λa k=>k.pe 1<|.attr (k.e 0) a,λa k=>k.pe 2<|.bin (Sv a) (k.e 1)<|k.e 0,λa k=>k.pe 2<|.cmp (WO a) (k.e 1)<|k.e 0,λa k=>k.pe 2<|.IQ (WO a) (k.e 1)<|k.e 0,λa k=>k.pe 1<|.bl (b0 a 1)<|k.e 0,λa k=>k.pe 1<|.call a<|k.e 0,λa k=>k.pe 1<|.cls a<|k.e 0,λa k=>k.pe 1<|.blt a<|k.e 0,λa k=>k.pe 2<|.meth (k.e 1) a<|k.e 0,λa k=>k.pe 0<|NI a,λa k=>k.ps 1 0<|.asg (Sw a)<|k.e 0,λa k=>k.ps 2 0<|.sat (k.e 1) a<|k.e 0,λa k=>k.ps 1 0<|.aug (L4 a 64) (Sv<|D0 a 64)<|k.e 0,λa k=>k.ps 2 0<|.o9 (k.e 1) (L4 a 64) (Sv<|D0 a 64)<|k.e 0,λa k=>k.ps 1 1<|.forR (Sw a) (k.e 0)<|k.s 0,λa k=>k.ps 1 1<|.forL (Sw a) (k.e 0)<|k.s 0,λa k=>k.ps 1 0<|.raise a<|k.e 0,λz k=>k.pe 0 .cn,λz k=>k.pe 1<|.neg<|k.e 0,λz k=>k.pe 2<|.Ro (k.e 1)<|k.e 0,λz k=>k.pe 1<|.not<|k.e 0,λz k=>k.pe 3<|.ite (k.e 2) (k.e 1)<|k.e 0,λz k=>k.pe 2<|.item (k.e 1)<|k.e 0,λz k=>k.pe 2<|.cut (k.e 1)<|k.e 0,λz k=>k.pe 1<|.slc<|k.e 0,λz k=>k.pe 0 .Mx,λz k=>k.pe 1<|.tup<|k.e 0,λz k=>k.pe 1<|.lst<|k.e 0,λz k=>k.pe 0 .nil,λz k=>k.pe 2<|.cons (k.e 1)<|k.e 0,λz k=>k.pe 0 .bad,λz k=>k.ps 0 0 .nil,λz k=>k.ps 0 2<|.cons (k.s 1)<|k.s 0,λz k=>k.ps 3 0<|.RX (k.e 2) (k.e 1)<|k.e 0,λz k=>k.ps 1 0<|.expr<|k.e 0,λz k=>k.ps 1 0<|.ret<|k.e 0,λz k=>k.ps 0 0 .RY,λz k=>k.ps 1 2<|.ite (k.e 0) (k.s 1)<|k.s 0,λz k=>k.ps 1 1<|.wh (k.e 0)<|k.s 0,λz k=>k.ps 0 0 .brk,λz k=>k.ps 0 0 .cnt,λz k=>k.ps 0 0 .pass,λz k=>k.ps 0 0 .bad]
noncomputable def frc{α:Type}(n:Nat)(f:Nat->α):α:=Nat.rec (f 0) (λk z=>f<|Nat.succ k) n
def Sx:Nat->Nat->SK->SK
 |0,_,k=>k
 |m+1,n,k=>frc (L4 n 64) λo=>match iu o 23 with
  |true=>frc (L4 (D0 n 64) 2048) λa=>frc (D0 n 131072) λn=>qfk (λes ss=>Sx m n (es,ss))<|Kd.getD o (λz k=>k) a k
  |false=>frc (D0 n 64) λn=>qfk (λes ss=>Sx m n (es,ss))<|Kd.getD o (λz k=>k) 0 k
def gM(m n:Nat):IS:=(Sx m n ([],[])).s 0
noncomputable def qbK:IS:=.cons (.sat (.loc 0) 0<|.loc 1)<|.cons (.sat (.loc 0) 1 .Mx) .nil
noncomputable def qbL:IS:=.cons (.ite (.not<|.Ro (.ci 0)<|.IQ .LtE (.loc 1)<|.IQ .Lt (.attr (.loc 0) 0) .nil) (.cons (.raise 100<|.cons (.cs<|ab "index of a model") .nil) .nil) .nil)<|.cons (.ret<|.meth (.attr (.loc 0) 1) 63<|.cons (.loc 1)<|.cons (.kB<|.int 1024) .nil) .nil
noncomputable def qbM:IS:=.cons (.ite (.not<|.Ro (.ci 0)<|.IQ .LtE (.loc 1)<|.IQ .Lt (.attr (.loc 0) 0) .nil) (.cons (.raise 100<|.cons (.cs<|ab "index of a model") .nil) .nil) .nil)<|.cons (.RX (.attr (.loc 0) 1) (.loc 1)<|.loc 2) .nil
noncomputable def qbN:IS:=.cons (.ret<|.ite (.cmp .LtE (.loc 0)<|.kB<|.int 64) (.bin .Mult (.lst<|.cons (.kB<|.int 1024) .nil)<|.loc 0)<|.cls 178<|.cons (.loc 0) .nil) .nil
noncomputable def qbO:IS:=.cons (.forL (.many [.loc 4,.loc 5]) (.tup<|.cons (.tup<|.cons (.loc 1)<|.cons (.ci 8) .nil)<|.cons (.tup<|.cons (.loc 2)<|.cons (.ci 4) .nil)<|.cons (.tup<|.cons (.loc 3)<|.cons (.ci 4) .nil) .nil)<|.cons (.ite (.bl ah<|.cons (.not<|.blt 5<|.cons (.loc 4)<|.cons (.kB<|.raw<|kM 0) .nil)<|.cons (.not<|.Ro (.ci 0)<|.IQ .LtE (.loc 4)<|.IQ .LtE (.loc 5) .nil) .nil) (.cons (.raise 100<|.cons (.cs<|ab "properties") .nil) .nil) .nil) .nil)<|.cons (.sat (.loc 0) 2<|.loc 1)<|.cons (.sat (.loc 0) 3<|.loc 2)<|.cons (.sat (.loc 0) 4<|.loc 3) .nil
noncomputable def qbP:IS:=.cons (.ret<|.bin .LShift (.kB<|.int 768)<|.bin .Add (.attr (.loc 0) 2)<|.attr (.loc 0) 3) .nil
noncomputable def qbQ:IS:=.cons (.ret<|.bin .BitAnd (.loc 1)<|.bin .Sub (.bin .LShift (.ci 1)<|.attr (.loc 0) 4)<|.ci 1) .nil
noncomputable def qbR:IS:=.cons (.ite (.cmp .Lt (.loc 0)<|.ci 4) (.cons (.ret<|.ci 0) .nil) .nil)<|.cons (.ret<|.ite (.cmp .Lt (.loc 0)<|.ci 10) (.bin .Sub (.loc 0)<|.ci 3)<|.bin .Sub (.loc 0)<|.ci 6) .nil
noncomputable def qbS:IS:=.cons (.ret<|.ite (.cmp .Lt (.loc 0)<|.kB<|.int 7) (.ci 7)<|.ci 10) .nil
noncomputable def qbT:IS:=.cons (.ret<|.cmp .Lt (.loc 0)<|.kB<|.int 7) .nil
noncomputable def qbU:IS:=.cons (.ret<|.blt 6<|.cons (.bin .Sub (.loc 0)<|.kB<|.int 2)<|.cons (.bin .Sub (.kB<|.int 4)<|.ci 1) .nil) .nil
noncomputable def qbV:IS:=.cons (.ite (.cmp .Lt (.loc 0)<|.ci 4) (.cons (.ret<|.tup<|.cons (.ci 0)<|.cons (.loc 0) .nil) .nil) .nil)<|.cons (.asg (.one<|.loc 1)<|.bin .Sub (.bin .RShift (.loc 0)<|.ci 1)<|.ci 1)<|.cons (.ret<|.tup<|.cons (.loc 1)<|.cons (.bin .LShift (.bin .BitOr (.ci 2)<|.bin .BitAnd (.loc 0)<|.ci 1)<|.loc 1) .nil) .nil
noncomputable def qbW:IS:=.cons (.asg (.one<|.loc 1)<|.bin .Sub (.loc 0)<|.ci 1)<|.cons (.ite (.cmp .Lt (.loc 1)<|.ci 4) (.cons (.ret<|.tup<|.cons (.loc 1)<|.cons (.ci 0)<|.cons (.loc 1) .nil) .nil) .nil)<|.cons (.asg (.one<|.loc 2)<|.bin .Sub (.meth (.loc 1) 62 .nil)<|.ci 1)<|.cons (.asg (.one<|.loc 3)<|.bin .Add (.bin .Mult (.ci 2)<|.loc 2)<|.bin .BitAnd (.bin .RShift (.loc 1)<|.bin .Sub (.loc 2)<|.ci 1)<|.ci 1)<|.cons (.asg (.many [.loc 4,.loc 5])<|.call 281<|.cons (.loc 3) .nil)<|.cons (.ret<|.tup<|.cons (.loc 3)<|.cons (.loc 4)<|.cons (.loc 5) .nil) .nil
def qbX:IS:=gM 30 0x4d34d34d34b40053a2000100946188000402118620001007461880004019186200010054400840002
def qbY:IS:=gM 35 0x9a69a69404a22f4b8e220000000804222f4b8e2004380518000402000001007445e971c4008700a3000080400000200c88bd2e38801000002
def qbZ:IS:=gM 80 0x134d34d34d34d34d34d34d2d0014e880004059127064710071c020c00420020000080aa24e0c8e200e38041800840040000101446188000404d186200010124618800040451862000101046188000403d1862000100e4618800040351862000100c46188000402d1862000100a4400840002
def qb0:IS:=gM 98 0x9a69a69a69a69a69a696800a7440586000150014e880a8c000202888bd2e388019d100a180004000202688bd2e388038e010400200000809222f4b8e2002380510000e200000200000808a22f4b8e20043840000208000202088bd2e388010e00c400420000807a22f4b8e200420000807222f4b8e200420000806a22f4b8e200420000806222f4b8e200420000805a22f4b8e200438031001080002
def qb1:IS:=gM 13 0x2696900038043a3880104028600010021c01880042
def qb2:IS:=gM 9 0x2696900439122e38800841000
def qb3:IS:=gM 12 0x269a5a4008e00420061000408c971c40042
def qb4:IS:=gM 29 0x134d2d2008700038081c008e00860143000080400008200610061000a001c7004300a18000402c7002380100038e00c601430000800800042
def qb5:IS:=gM 8 0x9a502e88083638800840002
def qb6:IS:=gM 14 0x26940ba30c71c71c4004000200010000800002
def qb7:IS:=gM 7 0x4d2d2e000000b8c0002
def qb8:IS:=gM 13 0x4d281744000ee803000b8c00028638800840002
def qb9:IS:=gM 81 0x269a696900038373a38e3880408000001230010800040007004380810010001c4ae59a5a4000e0dce8e38e201220021c01040204010300108000400070102007100010000006a7471c4004000c30010800055cb34b48001c1b9d1c71c40244004380208040801c60021000080388000800000353a38e200000061800840002
def qca:IS:=gM 91 0x134d34d34d2d2000700200001c1c1d1c71c401040000013180084000200038071c0208018200a1003401b1d1c4004700820040800055cb34b48001c008000070707471c7100408041d1c400c20021012180084000200a100220028800c200481192e38801855cb34b48001c008000c20044004100184005006e7471c7100a10039d1c4008200210111800840002
def qcb:IS:=gM 30 0x134d34b48011c800000c2b269400a0024706a7471c400070061002080084000200e3801000184008820000030800a00040
def WR:IS:=gM 86 0x134d34d2d2004720000040ac9a500c80091c1a9d1c710001c02040082002100008038e004000810022080000102b269a69a696b96696d00240060803840190012380708038e00400081005401a9d1c710001c0204000700e380800000e01820020002080084000200880071c00800142006800b1c0080020700e0005080110400000810024208e38801840040
def qcc:IS:=gM 30 0x4d34b4b600400000000200688e0000000055cb34b4b8008000010082208e388060802c47000000002
def qcd:IS:=gM 30 0x4d34d34d34d281e440002000203a89aa322000101c4400000002036880000000406910061000080ca2008200010184400840002
def qce:IS:=gM 21 0x269a69a503c880004000540053a203a3000080e220000000150014e880c0c0002
def qcf:IS:=gM 5 0x4d281b4400000002
def qcg:IS:=gM 12 0x9a5ae59a50c8b47100e100f0c0002
def qch:IS:=gM 15 0x9a5ae59a5098b47148010805c30191800040042
def qci:IS:=gM 33 0x4d2d72cd288a5a38e3880d0c00020003801080d8c000201e20002a38e2008401a1800040007002101b18000401c85c0d0c0002
def WT:IS:=gM 104 0x269a69a69698238e20081010100e223bcb8e203830000800055cd34a01903945c71c71c40bce8e20147440746000101918000400c202830181800040042a00a9d1c4028e880e8c000200014d280640e1971c71c400c2028301818000400422165c7101c18000400500127471c400820363000080c0c000200e836000005e7471001000c8c00020005471c40108000002e180c8c00020084000000d8c0002
def qcj:IS:=gM 77 0x134d34d34d34b4c11c71c40082006100b1280167471003080e8c0002a00a9d1c400c20001572cd2d3047100d1000100444006101c447b171c4070600010000800a06f0b8e38e20041018180004004200e81b52e38e388021d1c406c6000100a180c0c000202a30181800040042
def qck:IS:=gM 62 0x9a69a5a4209d1c400420001572cd2d2060e8e20021000080010000006a7471c40706000100c180c0c00020021572cd2d205ce8e20021000080010000006a7471c4018e8e3880d8c00020383000080c0c000201630181800040042
def qcl:IS:=gM 76 0x9a69a69a69690607471c40082014744074600010191800055cb34d2d200cd8e286389c00200010a80167471380040002101918000400080202380000002101b44000e0082036300008000540163a3880104000200e81d12e38800855cb34b481210001003447000000042
def qcm:IS:=gM 82 0x269a69a69a5a4019b1c40102b269a696807a747101a3a388028400020081572cd2da074e8e38e20026c7100408010401420001004400c9d1c4004200010012a38e2004400208009b1c4010200c42e008200c8004362a00a1d10000a80387471c400c200410000a801c7440002
def qcn:IS:=gM 33 0x134b5cb34a19168e202620012a38e20005471c400880000001080390b8010800151c7134008200c42e0042
def qco:IS:=gM 62 0x4d34d34b4801040f2200410001572cd2d20001002400d11c00000010ab966943bad1c71c400073a25c7100108018400829000151c710012a38e2008400208000e744b8e200210030800100344700000004200e42e0082
def qcp:IS:=gM 18 0x4d34a07d100000000a80007471c71c400c200410010800040504
def qcq:IS:=gM 12 0x269a503e8800000005400c3a38800040504
def qcr:IS:=gM 12 0x269a503e8800000005400d3a38800040504
def qcs:IS:=gM 23 0x2696b966943bad1c71c4000703e3000080d8c000203630000a40084000000f8c0002
def qct:IS:=gM 47 0x4d34d34d281e4400820002ae59a50eeb471c710001ce8971c400820363000080d8c00029000900344700000008200e80193a38800840002a00a1d10000a801c7440002
def qcu:IS:=gM 122 0x9a69a69690066c710030ac9a69a5ae696b9a6940fa2744b8e200810000a802c74711d12e388020400029a503c8801040004000801a238000000814d2d00f4e8e2034747100408000400c2000401011c0000004080320064e8e200210000ab9669a5ba807a74710113a388008e004d8e2006100208000400c20084000000f8c00020005471c4d01e1800040088004100136388018400500086c55cb34a19168e202a20022000000082
def qcv:IS:=gM 37 0x269a69a5a4181d1c7100208051d101d1800040646000101b44000e0082036300008000407d10023802080f8c0002000100740031b1c71001080f8c0002
def qcw:IS:=gM 47 0x9a69a696801e74710010800055cb34a1dd68e38e20003801000d8c000203630000a46801055cb34b50012a38e2066744004203c30000a801c7440002
def qcx:IS:=gM 96 0x4d34d34d34b48040ac9a69a696807874713601828238808080008020238000000c100408022000070026c7101a3a3880304000200a1572cd2da074e8e38e200a1002080304000200680193a388008400020025471c400880041005080310b8020801210471c40000862a00a1d10000a80387471c400c200410000a801c7440002
def qcy:IS:=gM 27 0x134b5cb34a19168e200210012a38e200a6c71c405c4000134014d8e3880b080002
def qcz:IS:=gM 35 0x4d34b5cb34a19168e200610012a38e20005471c401080041000080390b8020801100042000150aacb8e38801840002
def qcA:IS:=gM 109 0x269a69a69a5a5c00400000a85645c71c71c40684038200711c00400000a85565c71c406847000800002ae59a50c8b47101a10009000c00026c710000ab9669a5a400815cb34a19168e20342001200080004d8e200010082208e3880d8804047000000002ae59a50c8b47101a1000951c71c4024803223800000001000200000004d8e2000134014d8e3880c080002
def qcB:IS:=gM 57 0x4d34d2d2004100ca4d2d72cd2d2000100243800470041004080004e0040800051c710001c018400420021572cd2d200010025471c401080026c7100008000e00c2002134c80324019310010801040040
def qcC:IS:=gM 20 0x4d34b4b8004700410010800055cb34a19168e203a20042000840082
def qcD:IS:=gM 9 0x9a6941022008200010184400840002
def qcE:IS:=gM 64 0x134d34b5cd2d00a4e8e38e200a100408030400029a5a0141d1c71c71008000204004000c10000885971c4004200680093a38e20061002080c0c0002a01a9d1c71c4000000c7471c40082002101818000402c6030300008100c0002
def qcF:IS:=gM 45 0x2694022934d34a01d0000380608010e00820040500d4e8e38e200c10001c0104004202830181800040806000100340058e004001038050801851c71c4c00101800200011c00800102
def qcG:IS:=gM 81 0x134d28045269a69a696b9669a5aa80507471c71c401420041004080084000200240060803840190000380708010e01020040500d4e8e38e200e10001c0204000700e380800000e01820020001080a0c060600010201800040150016380100040e0142004100340058e004001038050801851c71c4c00101800200070003200040
def qcH:IS:=gM 136 0x269a69a69a696806e7471c71c4004702000040804000000012300108100c0002a01a9d1c71c40040002000618008408060001572cd34d2d540373a38e38e2002380800020400c000a100818008408060001500d4e8e38e2000000100030c0042040300008011004000081500d4e8e38e2002000000030c004204030000ab9669a696aa01b9d1c71c71004080180014200e300108100c0002a01a9d1c71c40000000000618008408060001002200400010200880021c021d1c400820143018180004020000c80011c038800c2
def WU:IS:=gM 110 0x134d34d34d34b40383a38e38e201638011c008001c7008200100030401040000013180c0c000204030000a806c7471c40207008200608008e010400810201800055cb34d2d540383a38e38e200c100408041d1c400c2030300008090c06060001020180004008800a20030801a0004700a10011c00800042ae59a5a8001000000081500dce8e38e3880184018000e7471002080c0c00020223018180004080600010084090171c40042
def qcI:IS:=gM 58 0x134d34d2d00ace8e388020400c20001500a8e8e38e20081002080a8c060600010000a806a7471c710000000840306030300008100c0002a01a9d1c71c4004000c7471c40082002101818000402c6030300008100c0002
def qcJ:IS:=gM 25 0x9a69a6940ea26a8c88000407110000000080da20000000150000e8e38e200410010800040784
def qcK:IS:=gM 27 0x9a696b96694262d1c5234c803240193101b1800040042002050aacb8e3880f880042
def qcL:IS:=gM 13 0x134b42b22e38e38e2040201c1003880042
def qcM:IS:=gM 53 0x9a69a6940da60040000101c4477971c4070600010000a804e7471c71c7100308008400820363000080e0c000200010065669685645c71c71c408441fe00000002050471c710030801040042
def qcN:IS:=gM 50 0x269a69a69a5036980208000407111ec5c7101c1800040002a0059d1c4004203a30000a80587471c71c40082002101b180004070600010000a803e7471002080005401e3a38800840002
def qcO:IS:=gM 24 0x4d34a07111ec5c7101c1800040002a0161d1c71c7100710088806c6000101c1800040002
def qcP:IS:=gM 21 0x9a5a5b58e5c71c7100a3a203a30000801040042000010b2e3880e0c0002
def qcQ:IS:=gM 53 0x269a696901474407460001572cd34b4b8e00100008405c603a30000a85645c71c71c40884006000001c002000108001003047000000042ae59a5a5c002000108001002c47000000042
def qcR:IS:=gM 155 0x134d34d34d34d2d2000700810030ab9a5ae696808274400029a5a0209d1c7100409c00200010800040008018238000000214d2d0084e8e388020401820001000200588e0000000855cb34a19168e2048234b00b8e38e3880204018200610020a803c747100608000400d004874710010800055cb34d34b48001c008000c2a0101d1c71c408ce8e38801840082000100509c006100208000401106c0000b1cb8e38e200200030801040108000001b180004000802023800000021572cd28645a388118801080026c7100208000e01020061006415c971c40042
def qcS:IS:=gM 22 0x134d34b480408022b34a019004a7471c710040801040142000100108032000c2
noncomputable def qcT:IS:=.cons (.ite (.cmp .Lt (.loc 1)<|.ci 1) (.cons (.raise 100<|.cons (.cs<|ab "a window has one octet at least") .nil) .nil) .nil)<|.cons (.sat (.loc 0) 33<|.loc 1)<|.cons (.sat (.loc 0) 34<|.ci 0)<|.cons (.expr<|.meth (.loc 0) 45 .nil) .nil
noncomputable def qcU:IS:=.cons (.sat (.loc 0) 35<|.blt 4 .nil)<|.cons (.sat (.loc 0) 36<|.ci 0) .nil
noncomputable def qcV:IS:=.cons (.ret<|.blt 1<|.cons (.attr (.loc 0) 35) .nil) .nil
noncomputable def qcW:IS:=.cons (.ite (.cmp .Lt (.blt 1<|.cons (.attr (.loc 0) 35) .nil)<|.attr (.loc 0) 33) (.cons (.expr<|.meth (.attr (.loc 0) 35) 60<|.cons (.loc 1) .nil) .nil)<|.cons (.RX (.attr (.loc 0) 35) (.attr (.loc 0) 36)<|.loc 1) .nil)<|.cons (.o9 (.loc 0) 36 .Add<|.ci 1)<|.cons (.ite (.cmp .Eq (.attr (.loc 0) 36)<|.attr (.loc 0) 33) (.cons (.sat (.loc 0) 36<|.ci 0) .nil) .nil)<|.cons (.o9 (.loc 0) 34 .Add<|.ci 1) .nil
noncomputable def qcX:IS:=.cons (.ite (.bl ah<|.cons (.cmp .Lt (.loc 1)<|.ci 1)<|.cons (.cmp .Gt (.loc 1)<|.attr (.loc 0) 46) .nil) (.cons (.raise 76<|.cons (.bin .Add (.bin .Add (.bin .Add (.bin .Add (.cs<|ab "a distance of ")<|.blt 10<|.cons (.loc 1) .nil)<|.cs<|ab " where ")<|.blt 10<|.cons (.attr (.loc 0) 46) .nil)<|.cs<|ab " octets are there") .nil) .nil) .nil) .nil
noncomputable def qcY:IS:=.cons (.expr<|.meth (.loc 0) 46<|.cons (.loc 1) .nil)<|.cons (.asg (.one<|.loc 2)<|.bin .Sub (.attr (.loc 0) 36)<|.loc 1)<|.cons (.ret<|.item (.attr (.loc 0) 35)<|.ite (.cmp .GtE (.loc 2)<|.ci 0) (.loc 2)<|.bin .Add (.loc 2)<|.blt 1<|.cons (.attr (.loc 0) 35) .nil) .nil
noncomputable def qcZ:IS:=.cons (.expr<|.meth (.loc 0) 46<|.cons (.loc 1) .nil)<|.cons (.asg (.one<|.loc 3)<|.blt 4 .nil)<|.cons (.forR (.one<|.loc 4) (.cons (.loc 2) .nil)<|.cons (.asg (.one<|.loc 5)<|.meth (.loc 0) 47<|.cons (.loc 1) .nil)<|.cons (.expr<|.meth (.loc 0) 11<|.cons (.loc 5) .nil)<|.cons (.expr<|.meth (.loc 3) 60<|.cons (.loc 5) .nil) .nil)<|.cons (.ret<|.blt 3<|.cons (.loc 3) .nil) .nil
noncomputable def qc0:IS:=.cons (.ite (.cmp .Lt (.attr (.loc 0) 46)<|.attr (.loc 0) 33) (.cons (.ret<|.blt 3<|.cons (.attr (.loc 0) 35) .nil) .nil) .nil)<|.cons (.ret<|.blt 3<|.cons (.bin .Add .bad<|.cut (.attr (.loc 0) 35)<|.attr (.loc 0) 36) .nil) .nil
noncomputable def WV:IS:=.cons (.ite (.cmp .Eq (.loc 1)<|.ci 0) (.cons (.ret<|.bin .Add (.loc 0)<|.bin .RShift (.bin .Sub (.kB<|.int 2048)<|.loc 0)<|.kB<|.int 5) .nil) .nil)<|.cons (.ret<|.bin .Sub (.loc 0)<|.bin .RShift (.loc 0)<|.kB<|.int 5) .nil
noncomputable def WW:IS:=.cons (.ite (.cmp .NotIn (.loc 0)<|.tup<|.cons (.ci 0)<|.cons (.ci 1) .nil) (.cons (.raise 100<|.cons (.cs<|ab "bit") .nil) .nil) .nil) .nil
noncomputable def WX:IS:=.cons (.ite (.bl ah<|.cons (.cmp .Lt (.loc 1)<|.ci 0)<|.cons (.not<|.Ro (.ci 0)<|.IQ .LtE (.loc 0)<|.IQ .Lt (.bin .LShift (.ci 1)<|.loc 1) .nil) .nil) (.cons (.raise 100<|.cons (.cs<|ab "value") .nil) .nil) .nil) .nil
def WY:IS:=gM 108 0x269a69a69a69a69a5ae59a5080b4710291000100a06000102918000401949a505288091c191d100008038e020005230000800051c40047002002812b966942c2d1c409c4002400000191d10000814a2000000010284413080002036880208000409d100410000ab96694322d1c409446990064803240193100136388128c000204c3000080104000004c8b600c20026c7102518000401885c0184000204a88033638800840002
noncomputable def WZ:IS:=.cons (.ite (.cmp .GtE (.attr (.loc 0) 27)<|.attr (.loc 0) 38) (.cons (.raise 52<|.cons (.cs<|ab "octets of a range coder") .nil) .nil) .nil)<|.cons (.o9 (.loc 0) 27 .Add<|.ci 1)<|.cons (.ret<|.item (.attr (.loc 0) 37)<|.bin .Sub (.attr (.loc 0) 27)<|.ci 1) .nil
noncomputable def W0:IS:=.cons (.ite (.cmp .Lt (.attr (.loc 0) 40)<|.kB<|.int 16777216) (.cons (.o9 (.loc 0) 40 .LShift<|.ci 8)<|.cons (.sat (.loc 0) 41<|.bin .BitOr (.bin .LShift (.attr (.loc 0) 41)<|.ci 8)<|.meth (.loc 0) 50 .nil) .nil) .nil) .nil
noncomputable def W2:IS:=.cons (.asg (.one<|.loc 3)<|.item (.loc 1)<|.loc 2)<|.cons (.asg (.one<|.loc 4)<|.bin .Mult (.bin .RShift (.attr (.loc 0) 40)<|.kB<|.int 11)<|.loc 3)<|.cons (.asg (.one<|.loc 5)<|.blt 0<|.cons (.cmp .GtE (.attr (.loc 0) 41)<|.loc 4) .nil)<|.cons (.ite (.cmp .Eq (.loc 5)<|.ci 0) (.cons (.sat (.loc 0) 40<|.loc 4) .nil)<|.cons (.o9 (.loc 0) 40 .Sub<|.loc 4)<|.cons (.o9 (.loc 0) 41 .Sub<|.loc 4) .nil)<|.cons (.RX (.loc 1) (.loc 2)<|.call 1011<|.cons (.loc 3)<|.cons (.loc 5) .nil)<|.cons (.expr<|.meth (.loc 0) 52 .nil)<|.cons (.ret<|.loc 5) .nil
noncomputable def W3:IS:=.cons (.asg (.one<|.loc 2)<|.ci 0)<|.cons (.forR (.one<|.loc 3) (.cons (.loc 1) .nil)<|.cons (.o9 (.loc 0) 40 .RShift<|.ci 1)<|.cons (.asg (.one<|.loc 4)<|.blt 0<|.cons (.cmp .GtE (.attr (.loc 0) 41)<|.attr (.loc 0) 40) .nil)<|.cons (.ite (.cmp .Eq (.loc 4)<|.ci 1) (.cons (.o9 (.loc 0) 41 .Sub<|.attr (.loc 0) 40)<|.cons (.ite (.cmp .GtE (.attr (.loc 0) 41)<|.attr (.loc 0) 40) (.cons (.raise 64<|.cons (.cs<|ab "code not below its span") .nil) .nil) .nil) .nil) .nil)<|.cons (.asg (.one<|.loc 2)<|.bin .BitOr (.bin .LShift (.loc 2)<|.ci 1)<|.loc 4)<|.cons (.expr<|.meth (.loc 0) 52 .nil) .nil)<|.cons (.ret<|.loc 2) .nil
noncomputable def W4:IS:=.cons (.asg (.one<|.loc 4)<|.ci 1)<|.cons (.forR (.one<|.loc 5) (.cons (.loc 3) .nil)<|.cons (.asg (.one<|.loc 4)<|.bin .BitOr (.bin .LShift (.loc 4)<|.ci 1)<|.meth (.loc 0) 53<|.cons (.loc 1)<|.cons (.bin .Add (.loc 2)<|.loc 4) .nil) .nil)<|.cons (.ret<|.bin .Sub (.loc 4)<|.bin .LShift (.ci 1)<|.loc 3) .nil
noncomputable def W5:IS:=.cons (.asg (.many [.loc 4,.loc 5])<|.tup<|.cons (.ci 1)<|.cons (.ci 0) .nil)<|.cons (.forR (.one<|.loc 6) (.cons (.loc 3) .nil)<|.cons (.asg (.one<|.loc 7)<|.meth (.loc 0) 53<|.cons (.loc 1)<|.cons (.bin .Add (.loc 2)<|.loc 4) .nil)<|.cons (.asg (.one<|.loc 4)<|.bin .BitOr (.bin .LShift (.loc 4)<|.ci 1)<|.loc 7)<|.cons (.aug 5 .BitOr<|.bin .LShift (.loc 7)<|.loc 6) .nil)<|.cons (.ret<|.loc 5) .nil
noncomputable def W6:IS:=.cons (.sat (.loc 0) 42<|.blt 4 .nil)<|.cons (.sat (.loc 0) 7<|.ci 0)<|.cons (.sat (.loc 0) 40<|.kB<|.int 4294967295)<|.cons (.sat (.loc 0) 43<|.ci 0)<|.cons (.sat (.loc 0) 44<|.ci 1)<|.cons (.sat (.loc 0) 45<|.cb ao) .nil
noncomputable def W7:IS:=.cons (.ite (.bl ah<|.cons (.cmp .Lt (.attr (.loc 0) 7)<|.kB<|.int 4278190080)<|.cons (.cmp .GtE (.attr (.loc 0) 7)<|.kB<|.int 4294967296) .nil) (.cons (.asg (.one<|.loc 1)<|.bin .RShift (.attr (.loc 0) 7)<|.ci 32)<|.cons (.expr<|.meth (.attr (.loc 0) 42) 60<|.cons (.bin .BitAnd (.bin .Add (.attr (.loc 0) 43)<|.loc 1)<|.ci 255) .nil)<|.cons (.expr<|.meth (.attr (.loc 0) 42) 61<|.cons (.bin .Mult (.blt 3<|.cons (.lst<|.cons (.bin .BitAnd (.bin .Add (.ci 255)<|.loc 1)<|.ci 255) .nil) .nil)<|.bin .Sub (.attr (.loc 0) 44)<|.ci 1) .nil)<|.cons (.sat (.loc 0) 43<|.bin .BitAnd (.bin .RShift (.attr (.loc 0) 7)<|.ci 24)<|.ci 255)<|.cons (.sat (.loc 0) 44<|.ci 0) .nil) .nil)<|.cons (.o9 (.loc 0) 44 .Add<|.ci 1)<|.cons (.sat (.loc 0) 7<|.bin .LShift (.bin .BitAnd (.attr (.loc 0) 7)<|.bin .Sub (.kB<|.int 16777216)<|.ci 1)<|.ci 8) .nil
noncomputable def W8:IS:=.cons (.ite (.cmp .Lt (.attr (.loc 0) 40)<|.kB<|.int 16777216) (.cons (.o9 (.loc 0) 40 .LShift<|.ci 8)<|.cons (.expr<|.meth (.loc 0) 57 .nil) .nil) .nil) .nil
noncomputable def W9:IS:=.cons (.ite (.attr (.loc 0) 45) (.cons (.raise 100<|.cons (.cs<|ab "behind the end of a range coder") .nil) .nil) .nil) .nil
noncomputable def Xa:IS:=.cons (.expr<|.call 1018<|.cons (.loc 3) .nil)<|.cons (.expr<|.meth (.loc 0) 58 .nil)<|.cons (.asg (.one<|.loc 4)<|.item (.loc 1)<|.loc 2)<|.cons (.asg (.one<|.loc 5)<|.bin .Mult (.bin .RShift (.attr (.loc 0) 40)<|.kB<|.int 11)<|.loc 4)<|.cons (.ite (.cmp .Eq (.loc 3)<|.ci 0) (.cons (.sat (.loc 0) 40<|.loc 5) .nil)<|.cons (.o9 (.loc 0) 7 .Add<|.loc 5)<|.cons (.o9 (.loc 0) 40 .Sub<|.loc 5) .nil)<|.cons (.RX (.loc 1) (.loc 2)<|.call 1011<|.cons (.loc 4)<|.cons (.loc 3) .nil)<|.cons (.expr<|.meth (.loc 0) 52 .nil) .nil
noncomputable def Xb:IS:=.cons (.expr<|.call 1025<|.cons (.loc 2)<|.cons (.loc 1) .nil)<|.cons (.expr<|.meth (.loc 0) 58 .nil)<|.cons (.forR (.one<|.loc 3) (.cons (.bin .Sub (.loc 1)<|.ci 1)<|.cons (.neg<|.ci 1)<|.cons (.neg<|.ci 1) .nil)<|.cons (.o9 (.loc 0) 40 .RShift<|.ci 1)<|.cons (.ite (.cmp .Eq (.bin .BitAnd (.bin .RShift (.loc 2)<|.loc 3)<|.ci 1)<|.ci 1) (.cons (.o9 (.loc 0) 7 .Add<|.attr (.loc 0) 40) .nil) .nil)<|.cons (.expr<|.meth (.loc 0) 52 .nil) .nil) .nil
noncomputable def Xc:IS:=.cons (.expr<|.call 1025<|.cons (.loc 4)<|.cons (.loc 3) .nil)<|.cons (.asg (.one<|.loc 5)<|.ci 1)<|.cons (.forR (.one<|.loc 6) (.cons (.bin .Sub (.loc 3)<|.ci 1)<|.cons (.neg<|.ci 1)<|.cons (.neg<|.ci 1) .nil)<|.cons (.asg (.one<|.loc 7)<|.bin .BitAnd (.bin .RShift (.loc 4)<|.loc 6)<|.ci 1)<|.cons (.expr<|.meth (.loc 0) 53<|.cons (.loc 1)<|.cons (.bin .Add (.loc 2)<|.loc 5)<|.cons (.loc 7) .nil)<|.cons (.asg (.one<|.loc 5)<|.bin .BitOr (.bin .LShift (.loc 5)<|.ci 1)<|.loc 7) .nil) .nil
noncomputable def Xd:IS:=.cons (.expr<|.call 1025<|.cons (.loc 4)<|.cons (.loc 3) .nil)<|.cons (.asg (.one<|.loc 5)<|.ci 1)<|.cons (.forR (.one<|.loc 6) (.cons (.loc 3) .nil)<|.cons (.asg (.one<|.loc 7)<|.bin .BitAnd (.bin .RShift (.loc 4)<|.loc 6)<|.ci 1)<|.cons (.expr<|.meth (.loc 0) 53<|.cons (.loc 1)<|.cons (.bin .Add (.loc 2)<|.loc 5)<|.cons (.loc 7) .nil)<|.cons (.asg (.one<|.loc 5)<|.bin .BitOr (.bin .LShift (.loc 5)<|.ci 1)<|.loc 7) .nil) .nil
noncomputable def Xe:IS:=.cons (.ite (.not<|.attr (.loc 0) 45) (.cons (.forR (.one<|.loc 1) (.cons (.kB<|.int 5) .nil)<|.cons (.expr<|.meth (.loc 0) 57 .nil) .nil)<|.cons (.sat (.loc 0) 45<|.cb ah) .nil) .nil)<|.cons (.ret<|.blt 3<|.cons (.attr (.loc 0) 42) .nil) .nil
def Xf:IS:=gM 50 0x134b4c31c71c71c50471c7100400000000808238e388000000400020411c71c4004000400000208e38e200000000000010471c7100200000000c0
def Xg:IS:=gM 47 0x269a696900a380109b00a3be500000e008000038021c010400c0004380208010e008200a000736389c0041380000000100220009b1c4e00000000400829c000e0040004100100000401d07000800002
def Xh:IS:=gM 144 0x269a69698238e20066c7100208008400549a5ae69a69401a934b403c3a389c600204008200414710050a80787471411c710050a08e38e200a100408058800420048411c710001e5c171c7100500000400800003cb82e38e20026c7100208000400409a696807874714b82e38e22000000080105403c3a38a08e38800810471010100084004a8e388001000009705c71c400c00001000200000004d8e200414710001e5c171c7100600000400400128411c71004362862
def Xi:IS:=gM 20 0x9a5a4b8191c4390c8e38e2700100000270008000027000000002
def Xj:IS:=gM 42 0x4d34d34d2d20ece8802055cb34b40223a200a10030a804c7471c710000001040a8400a100441ca991c710040a63171c4000200c84a6322
def Xk:IS:=gM 28 0x134b4c31c71c71c71c40c4e880c8c004203c3001080e0c0042036300108140c00020523000080d8c0002
def Xl:IS:=gM 99 0x4d34d34d34d2d20182ae59a5a0079d1c4004200410040801a006ce8e38e2000080136388018400420041572cd2d2040e8e388000e000d8e20081001363880184004200410002001000002ae59a5a4099d1c71c4010200a1001080104000800200000ab9669690367471c71004080284004200410002000000002008836004d8e200612e0102
def Xm:IS:=gM 35 0x9a69a5a4010402959a69403a0000700810020ab96696900410002a38e2008400108000e0102004100721700210000803a00000
theorem qc1:Dk 154 2 0 qbK:=.of 2 (by kernel_rfl)
theorem qc2:Dk 168 2 0 qbL:=.of 3 (by kernel_rfl)
theorem qc3:Dk 175 3 0 qbM:=.of 4 (by kernel_rfl)
theorem Xn:Dk 189 1 0 qbN:=.of 5 (by kernel_rfl)
theorem qc4:Dk 204 4 2 qbO:=⟨r8 6,by kernel_rfl,λG F H=>GX 4 λa b c d name kV doc pm an ct=>fI (T:=197) (by kernel_rfl) (G.X H _ _<|F.rG (197,[.int 3 463,.int 0 464,.int 2 465])<|.tail _<|.head _) rfl rfl rfl,by kernel_rfl,by kernel_rfl⟩
theorem qc5:Dk 218 1 0 qbP:=.of 7 (by kernel_rfl)
theorem qc6:Dk 225 2 0 qbQ:=.of 8 (by kernel_rfl)
theorem qc7:Dk 239 1 0 qbR:=.of 9 (by kernel_rfl)
theorem qc8:Dk 246 1 0 qbS:=.of 10 (by kernel_rfl)
theorem qc9:Dk 267 1 0 qbT:=.of 11 (by kernel_rfl)
theorem qda:Dk 274 1 0 qbU:=.of 12 (by kernel_rfl)
theorem qdb:Dk 281 1 1 qbV:=.of 13 (by kernel_rfl)
theorem qdc:Dk 288 1 5 qbW:=.of 14 (by kernel_rfl)
theorem qdd:Dk 302 2 0 qbX:=.of 15 (by kernel_rfl)
theorem qde:Dk 309 1 0 qbY:=.of 16 (by kernel_rfl)
theorem qdf:Dk 330 2 0 qbZ:=.of 17 (by kernel_rfl)
theorem qdg:Dk 337 1 0 qb0:=.of 18 (by kernel_rfl)
theorem qdh:Dk 344 3 0 qb1:=.of 19 (by kernel_rfl)
theorem qdi:Dk 351 2 0 qb2:=.of 20 (by kernel_rfl)
theorem qdj:Dk 358 2 2 qb3:=.of 21 (by kernel_rfl)
theorem qdk:Dk 365 3 1 qb4:=.of 22 (by kernel_rfl)
theorem qdl:Dk 395 1 0 qb6:=.of 24 (by kernel_rfl)
theorem qdm:Dk 402 1 0 qb7:=.of 25 (by kernel_rfl)
theorem qdn:Dk 416 2 0 qb8:=.of 26 (by kernel_rfl)
theorem qdo:Dk 437 3 0 qb9:=.of 27 (by kernel_rfl)
theorem qdp:Dk 444 3 4 qca:=.of 28 (by kernel_rfl)
theorem qdq:Dk 451 3 1 qcb:=.of 29 (by kernel_rfl)
theorem qdr:Dk 458 4 4 WR:=.of 30 (by kernel_rfl)
theorem Sy:Dk 465 1 0 qcc:=.of 31 (by kernel_rfl)
theorem NJ:Dk 480 4 0 qcd:=⟨r8 32,by kernel_rfl,λG F H=>GX 4 λa b c d name kV doc pm an ct=>fI (T:=473) (by kernel_rfl) (G.X H _ _<|F.rG (473,[.none])<|.tail _<|.tail _<|.tail _<|.head _) rfl rfl rfl,by kernel_rfl,by kernel_rfl⟩
theorem qds:Dk 487 1 0 qce:=.of 33 (by kernel_rfl)
theorem qdt:Dk 494 1 0 qcf:=.of 34 (by kernel_rfl)
theorem Xo:Dk 515 1 0 qcg:=.of 35 (by kernel_rfl)
theorem qdu:Dk 522 2 0 qch:=.of 36 (by kernel_rfl)
theorem Xp:Dk 529 2 0 qci:=.of 37 (by kernel_rfl)
theorem qdv:Dk 536 2 3 WT:=.of 38 (by kernel_rfl)
theorem qdw:Dk 543 2 2 qcj:=.of 39 (by kernel_rfl)
theorem qdx:Dk 564 2 0 qck:=.of 40 (by kernel_rfl)
theorem NK:Dk 571 2 1 qcl:=.of 41 (by kernel_rfl)
theorem NL:Dk 578 4 2 qcm:=.of 42 (by kernel_rfl)
theorem Xq:Dk 585 3 0 qcn:=.of 43 (by kernel_rfl)
theorem Ke:Dk 592 4 0 qco:=.of 44 (by kernel_rfl)
theorem Xr:Dk 614 4 0 qcp:=⟨r8 45,by kernel_rfl,λG F H=>GX 4 λa b c d name kV doc pm an ct=>fI (T:=607) (by kernel_rfl) (G.X H _ _<|F.rG (607,[.none])<|.tail _<|.tail _<|.tail _<|.tail _<|.head _) rfl rfl rfl,by kernel_rfl,by kernel_rfl⟩
theorem qdy:Dk 621 1 0 qcq:=.of 46 (by kernel_rfl)
theorem qdz:Dk 628 1 0 qcr:=.of 47 (by kernel_rfl)
theorem qdA:Dk 635 1 0 qcs:=.of 48 (by kernel_rfl)
theorem Xs:Dk 642 2 1 qct:=.of 49 (by kernel_rfl)
theorem Xu:Dk 649 3 2 qcu:=.of 50 (by kernel_rfl)
theorem qdB:Dk 656 2 1 qcv:=.of 51 (by kernel_rfl)
theorem qdC:Dk 663 3 0 qcw:=.of 52 (by kernel_rfl)
theorem NM:Dk 670 4 3 qcx:=.of 53 (by kernel_rfl)
theorem qdD:Dk 683 2 0 qcy:=.of 54 (by kernel_rfl)
theorem Xv:Dk 690 4 0 qcz:=.of 55 (by kernel_rfl)
theorem Xx:Dk 697 1 0 qcA:=.of 56 (by kernel_rfl)
theorem NN:Dk 704 4 1 qcB:=.of 57 (by kernel_rfl)
theorem NO:Dk 711 3 0 qcC:=.of 58 (by kernel_rfl)
theorem qdE:Dk 725 3 0 qcD:=.of 59 (by kernel_rfl)
theorem qdF:Dk 732 6 1 qcE:=.of 60 (by kernel_rfl)
theorem qdG:Dk 739 5 2 qcF:=.of 61 (by kernel_rfl)
theorem qdH:Dk 746 4 4 qcG:=.of 62 (by kernel_rfl)
theorem qdI:Dk 753 4 2 qcH:=.of 63 (by kernel_rfl)
theorem qdJ:Dk 760 3 4 WU:=.of 64 (by kernel_rfl)
theorem qdK:Dk 767 5 0 qcI:=.of 65 (by kernel_rfl)
theorem qdL:Dk 809 3 0 qcJ:=.of 66 (by kernel_rfl)
theorem qdM:Dk 837 2 0 qcK:=.of 67 (by kernel_rfl)
theorem qdN:Dk 844 2 0 qcL:=.of 68 (by kernel_rfl)
theorem qdO:Dk 851 4 1 qcM:=.of 69 (by kernel_rfl)
theorem qdP:Dk 858 3 0 qcN:=.of 70 (by kernel_rfl)
theorem qdQ:Dk 879 1 0 qcO:=.of 71 (by kernel_rfl)
theorem Kf:Dk 886 3 0 qcP:=.of 72 (by kernel_rfl)
theorem qdR:Dk 893 2 0 qcQ:=.of 73 (by kernel_rfl)
theorem Xy:Dk 900 4 3 qcR:=.of 74 (by kernel_rfl)
theorem qdS:Dk 907 4 2 qcS:=.of 75 (by kernel_rfl)
theorem qdT:Dk 933 2 0 qcT:=.of 76 (by kernel_rfl)
theorem qdU:Dk 940 1 0 qcU:=.of 77 (by kernel_rfl)
theorem qdV:Dk 947 1 0 qcV:=.of 78 (by kernel_rfl)
theorem qdW:Dk 955 2 0 qcW:=.of 79 (by kernel_rfl)
theorem qdX:Dk 969 2 0 qcX:=.of 80 (by kernel_rfl)
theorem qdY:Dk 976 2 1 qcY:=.of 81 (by kernel_rfl)
theorem qdZ:Dk 983 3 3 qcZ:=.of 82 (by kernel_rfl)
theorem qd0:Dk 990 1 0 qc0:=.of 83 (by kernel_rfl)
theorem Xz:Dk 1011 2 0 WV:=.of 84 (by kernel_rfl)
theorem XA:Dk 1018 1 0 WW:=.of 85 (by kernel_rfl)
theorem XB:Dk 1025 2 0 WX:=.of 86 (by kernel_rfl)
theorem XC:Dk 1047 1 0 WZ:=.of 88 (by kernel_rfl)
theorem XD:Dk 1075 1 0 W0:=.of 90 (by kernel_rfl)
theorem XF:Dk 1082 3 3 W2:=.of 91 (by kernel_rfl)
theorem XG:Dk 1089 2 3 W3:=.of 92 (by kernel_rfl)
theorem XH:Dk 1096 4 2 W4:=.of 93 (by kernel_rfl)
theorem XI:Dk 1103 4 4 W5:=.of 94 (by kernel_rfl)
theorem XJ:Dk 1124 1 0 W6:=.of 95 (by kernel_rfl)
theorem XK:Dk 1131 1 1 W7:=.of 96 (by kernel_rfl)
theorem XM:Dk 1138 1 0 W8:=.of 97 (by kernel_rfl)
theorem XN:Dk 1145 1 0 W9:=.of 98 (by kernel_rfl)
theorem XO:Dk 1152 4 2 Xa:=.of 99 (by kernel_rfl)
theorem XQ:Dk 1159 3 1 Xb:=.of 100 (by kernel_rfl)
theorem XR:Dk 1166 5 3 Xc:=.of 101 (by kernel_rfl)
theorem XS:Dk 1173 5 3 Xd:=.of 102 (by kernel_rfl)
theorem XT:Dk 1187 1 1 Xe:=.of 103 (by kernel_rfl)
theorem XU:Dk 1201 0 0 Xf:=.of 104 (by kernel_rfl)
theorem XW:Dk 1208 2 1 Xg:=.of 105 (by kernel_rfl)
theorem XX:Dk 1215 1 6 Xh:=.of 106 (by kernel_rfl)
theorem XY:Dk 1222 1 0 Xi:=.of 107 (by kernel_rfl)
theorem XZ:Dk 1227 4 2 Xj:=.of 108 (by kernel_rfl)
theorem X0:Dk 1241 2 0 Xk:=.of 110 (by kernel_rfl)
theorem uo:Dk 1253 5 2 Xl:=.of 111 (by kernel_rfl)
theorem Px:Dk 1260 2 3 Xm:=.of 112 (by kernel_rfl)
noncomputable def l6(n:Int)(g:Nat->Option Nat):List AO:=[.inst 178 [ae<|.int n,ae<|.ref 1],.dct g]
theorem qd1(h0:0<=j)(h1:j<n):LV 1 168 2 [.ref 0,.int j] (l6 n g) (bN (.ret<|.int<|RE (g j.toNat) 1024)<|l6 n g):=
 qc2.enter rfl (na _ h0<|na _ h1<|n1 _ h0<|n1 _ ⟨rfl,rfl⟩ trivial)
theorem qd2(h0:0<=j)(h1:j<n)(h2:n<=1000000)(hx:0<=x):LV 1 175 2 [.ref 0,.int j,.int x] (l6 n g) (bN (.ret .none)<|l6 n λk=>if k=j.toNat then ae x.toNat else g k):=
 qc3.enter rfl (na _ h0<|na _ h1<|n1 _ ⟨h0,tO h1 h2,hx⟩<|n1 _ ⟨rfl,rfl⟩ trivial)
theorem qd3:LV 1 154 1 [.ref 0,.int n] [.inst 178 [aq,aq]] (bN (.ret .none)<|l6 n λz=>aq):=
 qc1.enter rfl (n1 _ ⟨rfl,rfl⟩ trivial)
theorem Py{ω bb}(h:∀k:Nat,bb.ρ[k]? =ω.ρ[k]?){a}{v}(ha:(match a with |.tup _=>ao |_=>ah)=ah)(x:Aj bb (ae a) v):Aj ω (ae a) v:=by
 cases v with
 |none=>exact x
 |some v=>
  cases a with
  |ref k=>rwa[aK (gY.mp<|show AV.Is bb (.ref k) v from x) λb e r=>?_,(show AV.Is ω (.ref k) v from gY.mpr<|bV b ((h k).symm.trans e) r)]
  |tup xs=>contradiction
  |_=>exact x
section
variable{n:Nat}
theorem Sat.tab(H:Sat C (U7 m n p::l) s):
 (∃xs,(xs.length=n/\n<=1000000/\∀i,i<n->∃t,xs[i]? =ae (.int (p i:Nat) t))/\Sat C (jJ m xs::l) s)\/
 (∃d f,(n<=1000000/\∀i,i<n->(f i=ae (p i)\/(f i=aq/\p i=1024)))/\Sat C (SL (dR ⟨[m,d],[]⟩ [m,d]<|l6 n f)::l) s):=by
 erw [nn λzn=>?_,aT H λfr aH=>?_,-H,aK aH λg cX th=>?_,-aH,dF cX λg1 g2 gW h hg=>?_,-cX,!gW];rcases h with⟨xs,a,c⟩ |⟨d,f,a,e⟩<;>(refine zn ?_;clear zn)
 . exact .inl ⟨xs,a,fr,_,⟨g1,g2,rfl,c,hg⟩,th⟩
 . exact .inr ⟨d,f,a,fr,_,⟨g1,g2,rfl,e,hg⟩,th⟩
theorem tK(ag:Agree 2 ⟨[m,d],[]⟩ bb)(hl:bb.ρ.length=2)(H:Sat C (dR bb bb.ρ (l6 n f)++l) s):Sat C (SL (dR ⟨[m,d],[]⟩ [m,d]<|l6 n f)::l) s:=by
 have e:bb.ρ=[m,d]:=uF λi=>by
  by_cases hi:i<2
  . exact ag.same i hi
  . exact af (dp<|by exact‹a=2->2<=b->a<=b› hl (a8 hi)) (af (dp<|by show 2<=i;exact(a8 hi)) rfl)
 rw[e] at H;refine Sat.unpack.mpr<|Sat.oW H<|F2.append (.cons (λg ⟨vs',ho,hi⟩=>⟨vs',?_,hi⟩)<|.cons (λz h=>h) .nil) F2.dK;have hk:∀k:Nat,bb.ρ[k]? =([m,d]:List br)[k]? :=λk=>by(first |exact e |exact congrArg _ e |exact af e rfl)
 cases ho with |cons p1 r1=>?_
 cases r1 with |cons p2 r2=>exact .cons (Py (ω:=⟨[m,d],[]⟩) hk rfl p1) (.cons (Py (ω:=⟨[m,d],[]⟩) hk rfl p2)<|by cases r2;exact .nil)
theorem GZ{N:Nat}(hj:j<n)(hN:c7 2 N=ah:=by exact rfl):CP N n p j:=by
 intro C A K G F rm m t l s value slice E Q hs H q;rcases H.tab with⟨xs,⟨hl,hz,hx⟩,H'⟩ |⟨d,f,⟨hz,hf⟩,H'⟩
 . obtain⟨u,hu⟩:=hx j hj
   exact(o7 H'.lst.typeIs PySem.F.slot_list_getitem.lookup hs<|Uh H'.lst (by exact‹a>=0›) (by lia) (by simpa using hu)<|q _ _ H)
 . have H0:=Sat.unpack.mp H'
   obtain⟨vs',H1⟩:=Sat.ex.mp H0;refine Ja G (Ph F) (.head _) (Sat.pure.mp H1).2 ?_<|CW hs _ _;refine(qd1 (n:=(n:Nat)) (j:=(j:Nat)) (g:=f) (aD _)<|aF.mpr hj).run G F (rm.le<|aa hN).in1 (ω:=⟨[m,d],[]⟩) (vs:=[.ref m,.int j t]) (R:=l) (.cons (gY.mpr<|bV m rfl rfl)<|.cons (dz.mpr<|qI t rfl) .nil) (aA 2) rfl H0 (λv hp' bb w s' pp ag jk hw H2=>?_) λc hp' bb a s' pp ag jk H2=>by cases pp.1
   obtain⟨e1,rfl⟩:=pp;injection e1 with e1;subst e1
   obtain⟨t',rfl⟩:=dz.mp hw
   have hp:RE (f (j:Int).toNat) 1024=(p j:Nat):=by
    erw [af (bS _)];rcases hf j hj with e |⟨e,e'⟩
    . erw [af e];rfl
    . refine af e<|af e' ?_;rfl
   rwa[af hp,q t' s'<|(tK ag jk H2.ET).imp λg hg=>.inr<|vE d f ⟨hz,hf⟩ hg]
theorem G2{N:Nat}(hj:j<n)(hN:c7 1 N=ah:=by exact rfl):CQ N n p j x:=by
 intro C A K G F rm m t u l s E Q H q;rcases H.tab with⟨xs,⟨hl,hz,hx⟩,H'⟩ |⟨d,f,⟨hz,hf⟩,H'⟩
 . refine a6.of (Ei .here H' (by lia) (by lia) (by exact aF.mpr<|‹a<b->c==b->a<c› hj hl) λs' H2=>q _<|H2.imp λg hg=>.inl<|bV _ (gp (by simpa using hl) hz λi hi=>?_) hg)
   simp only[bS];by_cases e:i=j
   . subst e
     rwa[af (if_pos rfl) (af (oJ<|by exact‹a==b->c<b->c<a› hl hi) ?_),(qI u rfl)]
   . rwa[af (if_neg e)<|af (gV λz=>e z.symm) ?_,hx i hi]
 . have H0:=Sat.unpack.mp H'
   obtain⟨vs',H1⟩:=Sat.ex.mp H0;erw [Jb G (Ph F) (.head _) (Sat.pure.mp H1).2];refine(qd2 (n:=(n:Nat)) (j:=(j:Nat)) (x:=(x:Nat)) (g:=f) (aD _) (aF.mpr hj) (bY.mpr hz)<|aD _).run G F (rm.le<|aa hN) (ω:=⟨[m,d],[]⟩) (vs:=[.ref m,.int j t,.int x u]) (R:=l) (.cons (gY.mpr<|bV m rfl rfl)<|.cons (dz.mpr<|qI t rfl)<|.cons (dz.mpr<|qI u rfl) .nil) (aA 2) rfl H0 (λv hp' bb w s' pp ag jk hw H2=>?_) λc hp' bb a s' pp ag jk H2=>by cases pp.1
   obtain⟨e1,rfl⟩:=pp;injection e1 with e1;subst e1
   refine q s'<|(tK ag jk H2.ET).imp λg hg=>.inr<|vE d (λk=>if k=(j:Int).toNat then ae (x:Int).toNat else f k) ⟨hz,λi hi=>?_⟩ hg;simp only[bS];by_cases e:i=j
   . rwa[af (if_pos e)<|af (if_pos e) ?_,.inl rfl]
   . rwa[af (if_neg e)<|af (if_neg e) ?_,hf i hi]
theorem X1{N:Nat}(hj:j<n)(hN:c7 2 N=ah:=by exact rfl):(0<=(j:Int)/\(j:Int)<n)/\CP N n p (j:Int).toNat:=⟨⟨aD _,aF.mpr hj⟩,GZ hj hN⟩
theorem NP{x:Nat}{N:Nat}(hj:j<n)(hN:c7 1 N=ah:=by exact rfl):(0<=(j:Int)/\(j:Int)<n/\0<=(x:Int))/\CQ N n p (j:Int).toNat (x:Int).toNat:=⟨(gp (aD _) (aF.mpr hj)<|aD _),G2 hj hN⟩
end
theorem bOr(a b:Nat):dM a b=((a|||b:Nat):Int):=by
 have h:∀x:Nat,Lk (x:Int)= -(x:Int)-1:=λx=>rfl;unfold dM;refine af (h _) (af (h _)<|af (bitAnd_nn (by exact Ll.mpr<|‹0>-a-1›)<|by exact Ll.mpr<|‹0>-a-1›) ?_);have e:∀x:Nat,(Lk<|-(x:Int)-1).toNat=x:=λx=>by show(-(-(x:Int)-1)-1).toNat=x;erw [af (show(-(-(x:Int)-1)-1)=(x:Int) by exact‹-(-a-1)-1&&a›)];rfl
 refine af (e _)<|af (e _) ?_;show-(-((a|||b:Nat):Int)-1)-1=_;exact‹-(-a-1)-1&&a›
theorem qd4(a b:Nat):aO a b=((a&&& b:Nat):Int):=by erw [af (bitAnd_pp (by exact‹a>=0›)<|by exact‹a>=0›)];rfl
theorem zz(h:b<2 ^ k):(a*2 ^ k)|||b=a*2 ^ k+b:=by
 exact af (eQ _ _)<|af (Nat.two_pow_add_eq_or_of_lt h _) rfl
theorem nO(a k:Nat):(a:Int).fdiv (2 ^ k)=((a/2 ^ k:Nat):Int):=by
 erw [af (Int.fdiv_eq_ediv_of_nonneg _<|Int.pow_nonneg<|by exact aD _)]
 push_cast;rfl
theorem wM(a k:Nat):aO (a:Int) ((2 ^ k-1:Nat):Int)=((a%2 ^ k:Nat):Int):=by exact af (qd4 _ _)<|af (Nat.and_two_pow_sub_one_eq_mod _ _) rfl
theorem Kg(c:Nat):(1:Int)*2 ^ ((c:Nat):Int).toNat=((2 ^ c:Nat):Int):=by refine af (rk _)<|af (bS _)<|af (lj _ _) ?_;rfl
theorem sf(a k:Nat):aO (a:Int) (1*2 ^ ((k:Nat):Int).toNat-1)=((a%2 ^ k:Nat):Int):=by
 refine dq (wM _ _) (af (Kg _)<|af (Qo<|g9<|by exact eJ _) ?_);rfl
theorem tL(b:Bool):iN b<2:=by cases b<;>decide
theorem sg(node:Nat)(b:Bool):dM ((node:Int)*2 ^ (1:Int).toNat) ((iN b:Nat):Int)=((2*node+iN b:Nat):Int):=by
 exact af (show(node:Int)*2 ^ (1:Int).toNat=((node*2 ^ 1:Nat):Int) from rfl)<|af (bOr _ _)<|af (zz<|tL b)<|af (eQ _ _) rfl
theorem nP(v p:Nat):aO ((v:Int).fdiv<|2 ^ ((p:Nat):Int).toNat) 1=((iN (v.testBit p):Nat):Int):=by
 rwa[af (bS _)<|af (nO _ _)<|af (iM _ _) ?_,wM _ 1]
theorem ny{a:Nat}(h:a<2 ^ 60){k:Int}(hk:(decide (0<=k)&&decide (k<=1000000))=ah:=by exact rfl):rR a k:=⟨⟨of_decide_eq_true (fj hk).1,of_decide_eq_true (fj hk).2⟩,aZ h<|by exact nI rfl⟩
theorem pq{k:Nat}(hk:k<=1000000){a:Nat}(h:a<2 ^ 60):rR a k:=⟨⟨aD _,bY.mpr hk⟩,aZ h<|by exact nI rfl⟩
theorem mulR{b:Nat}(h:b<2 ^ 60):OA a (b:Int):=IntMulOk.of_right (PySem.intBits_le_64 (by lia)<|by lia)
theorem bN.i{h}:bN r h r h:=⟨rfl,rfl⟩
theorem bN.ri{h}(e:v'=v):bN (.ret<|.int v) h (.ret<|.int v') h:=⟨by(first |exact e |exact congrArg _ e |exact af e rfl),rfl⟩
theorem bN.rt{h}(e:v'=v):bN (.ret<|.tup v) h (.ret<|.tup v') h:=⟨by(first |exact e |exact congrArg _ e |exact af e rfl),rfl⟩
theorem bN.rb{h}(e:v'=v):bN (.ret<|.bool v) h (.ret<|.bool v') h:=⟨by(first |exact e |exact congrArg _ e |exact af e rfl),rfl⟩
theorem bN.h{h}(e:h'=h):bN r h r h':=⟨rfl,e⟩
theorem ne(v:VC)(h:v.need)(e:v.nx= .tt:=by exact rfl):v.H:=n1 v h (by erw [af e];trivial)
noncomputable def aL(st:Nat):Nat:=if st<4 then 0 else if st<10 then st-3 else st-6
noncomputable def aM(st:Nat):Nat:=if st<7 then 7 else 10
noncomputable def zA(slot:Nat):Nat:=if slot<4 then 0 else slot/2-1
noncomputable def sP(slot:Nat):Nat:=if slot<4 then slot else(2+slot%2)*2 ^ (slot/2-1)
noncomputable def gT(n:Nat):Nat:=if n<4 then n else 2*n.log2+n/2 ^ (n.log2-1)%2
theorem EV{p:Nat}(hp:p<=2048):LV 1 1011 0 [.int p,.int (iN b:Nat)] [] (bN (.ret<|.int (nxt p b:Nat)) []):=by
 erw [Xz.enter rfl]
 cases b with
 |false=>
  rwa[na _ rfl<|n1 _ rfl<|ne _<|bN.ri ?_,af (show(2048:Int)-p=((2048-p:Nat):Int) from(cJ hp).symm),congrArg ((p:Int)+ ·)<|nO _ 5]
 |true=>
  refine nb _ (show ¬((iN ah:Nat):Int)=0 by decide) (n1 _ rfl (ne _ (bN.ri ((congrArg ((p:Int)- ·)<|nO p 5).trans (cJ<|gE _ _).symm))))
theorem X2:LV 1 1018 0 [.int (iN b:Nat)] [] (bN (.ret .none) []):=by
 erw [XA.enter rfl];cases b<;>exact ne _ bN.i
theorem Kh{v:Nat}{c:Nat}(hv:v<2 ^ c)(hc:c<=1000):LV 1 1025 0 [.int v,.int c] [] (bN (.ret .none) []):=
 XB.enter rfl (nb _ (bO.mpr<|aD _)<|na _ (aD _)<|n1 _ (pq (a:=1) (az hc<|by exact nI rfl)<|by exact nI rfl)<|na _ (show(v:Int)<1*2 ^ ((c:Nat):Int).toNat by rwa[af (Kg _),aF.mpr hv])<|ne _ bN.i)
theorem Sz{slot:Nat}(hs:slot<64):LV 1 281 0 [.int slot] [] (bN (.ret<|.tup [.int (zA slot:Nat),.int (sP slot:Nat)]) []):=by
 refine qdb.enter rfl<|nf _ (λh=>?_) λh=>?_
 . have h:slot<4:=aF.mp h
   refine ne _<|bN.rt ?_;unfold zA sP;refine af (if_pos h)<|af (if_pos h) ?_;rfl
 . have h:¬slot<4:=λh'=>h (aF.mpr h')
   have e2:dM 2 (aO (slot:Int) 1)=((2+slot%2:Nat):Int):=by
    rwa[af (show aO (slot:Int) 1=((slot%2:Nat):Int) from wM slot 1),(bOr 2 _).trans<|congrArg lV<|zz (a:=1) (k:=1)<|bA _<|by exact eJ _]
   have e1:(slot:Int).fdiv (2 ^ (1:Int).toNat)-1=((slot/2-1:Nat):Int):=by
    refine af (show(slot:Int).fdiv (2 ^ (1:Int).toNat)=((slot/2:Nat):Int) from nO slot 1) (af (Qo<|by exact‹4<=a->2*b+c==a->c<2->(1<=b)^3› (a8 h) (cu _ _) (bA _<|by exact eJ _)) ?_);rfl
   refine n1 _ rfl<|n1 _ ?_<|ne _<|bN.rt ?_
   . show rR (dM 2<|aO (slot:Int) 1) ((slot:Int).fdiv (2 ^ (1:Int).toNat)-1)
     rwa[af e1<|af e2 ?_,pq (by exact‹a<64->(b<=c)^2->2*c+d=a->(b<=1000000)^2› hs (dk _ _) (cu _ _))<|by lia]
   . unfold zA sP
     refine af (if_neg h)<|af (if_neg h)<|af e1<|af e2<|af (qe _ _)<|af (lj _ _)<|af (bS _) ?_;rfl
theorem SD{st:Nat}:LV 1 239 0 [.int st] [] (bN (.ret<|.int (aL st:Nat)) []):=by
 unfold aL;refine qc7.enter rfl<|nf _ (λh=>?_) λh=>nf _ (λg=>?_) λg=>?_
 . have h:st<4:=aF.mp h
   rwa[af (if_pos h),ne _ bN.i]
 . have h:¬st<4:=λh'=>h (aF.mpr h')
   have g:st<10:=aF.mp g;rwa[af (if_neg h)<|af (if_pos g) ?_,ne _<|bN.ri (cJ (m:=3) (n:=st)<|by exact‹(4<=a)^3->(3<=a)^4› (a8 h)).symm]
 . have g:¬st<10:=λh'=>g (aF.mpr h')
   rwa[af (if_neg<|by exact iy<|‹(10<=a)^2->(4<=a)^5› (a8 g))<|af (if_neg g) ?_,ne _<|bN.ri (cJ (m:=6) (n:=st)<|by exact‹(10<=a)^3->(6<=a)^5› (a8 g)).symm]
theorem SE{st:Nat}:LV 1 246 0 [.int st] [] (bN (.ret<|.int (aM st:Nat)) []):=by
 unfold aM;refine qc8.enter rfl<|nf _ (λh=>?_) λh=>?_
 . refine af (if_pos<|aF.mp h) ?_
   exact ne _ bN.i
 . refine af (if_neg λh'=>h<|aF.mpr h') ?_
   exact ne _ bN.i
theorem X3{st:Nat}:LV 1 267 0 [.int st] [] (bN (.ret<|.bool<|decide<|st<7) []):=
 qc9.enter rfl (nf _ (λh=>ne _<|bN.rb (decide_eq_true<|aF.mp h).symm) λh=>ne _<|bN.rb (decide_eq_false λh'=>h<|aF.mpr h').symm)
theorem qd5{n:Nat}(hn:2<=n):LV 1 274 0 [.int n] [] (bN (.ret<|.int (min (n-2) 3:Nat)) []):=by
 refine qda.enter rfl<|ne _<|bN.ri ?_;show(if(4-1:Int)<n-2 then(4-1:Int) else n-2)=_;erw [af (show((n:Nat):Int)-2=((n-2:Nat):Int) from(cJ (n:=n) (m:=2) hn).symm)];by_cases h:3<n-2
 . exact(if_pos<|aF.mpr h).trans<|congrArg lV (Nat.min_eq_right<|bM h).symm
 . exact(if_neg λq=>h<|aF.mp q).trans<|congrArg lV (lh<|a8 h).symm
theorem NQ:∀m<31,4<=m->m.log2<32/\2<=m.log2:=by decide
theorem X4{m:Nat}(h:m≠0):((fA (m:Int):Nat):Int)=((m.log2+1:Nat):Int):=congrArg lV (if_neg λe=>h<|gm<|by simpa using e)
theorem qd6{m:Nat}(hm:m<31\/m=4294967295):LV 2 288 0 [.int<|(m:Int)+1] [] (bN (.ret<|.tup [.int (gT m:Nat),.int (zA (gT m):Nat),.int (sP (gT m):Nat)]) []):=by
 have e0:(m:Int)+1-1=m:=l9 _ _;refine qdc.enter rfl<|nf _ (λh=>?_) λh=>?_
 . have h:m<4:=by have:(m:Int)+1-1<4:=h;exact‹4>a+1-1->a<4› this
   refine ne _<|bN.rt ?_;unfold gT;erw [af (if_pos h)];unfold zA sP;refine af (if_pos h)<|af (if_pos h)<|af e0 ?_;rfl
 . have h:¬m<4:=by have:¬(m:Int)+1-1<4:=h;exact iy (‹a+1-1>=4->4<=a› (bO.mp this))
   have hl:m.log2<32/\2<=m.log2:=by
    rcases hm with hm |rfl
    . exact NQ m hm (by exact(a8 h))
    . decide
   have e1:((fA ((m:Int)+1-1):Nat):Int)-1=((m.log2:Nat):Int):=by rwa[af e0 (af (X4<|by exact λzq=>‹4<=a->a=0->(0==0)^4› (a8 h) zq) ?_),l9 (m.log2:Int) 1]
   have e3:((m.log2:Nat):Int)-1=((m.log2-1:Nat):Int):=(cJ (m:=1) (n:=m.log2)<|by exact‹2<=a->(1<=a)^2› hl.2).symm
   have e2:2*(((fA ((m:Int)+1-1):Nat):Int)-1)+aO (((m:Int)+1-1).fdiv<|2 ^ ((((fA ((m:Int)+1-1):Nat):Int)-1)-1).toNat) 1=((gT m:Nat):Int):=by
    refine af e1<|af e3<|af e0<|af (nP _ _)<|af (iM _ _) ?_;unfold gT;erw [af (if_neg h)];rfl
   have L8:gT m<64:=by unfold gT;rwa[af (if_neg h),‹(a<32)^2->b<2->2*a+b<64› hl.1 (bA _<|by exact eJ _)]
   refine n1 _ (IntMulOk.of_left<|by exact nI rfl)<|n1 _ ?_ ?_
   . show decide (0<=((fA ((m:Int)+1-1):Nat):Int)-1-1)=ah
     refine af e1<|af e3 ?_;rfl
   . refine nc _ [] (Sz L8) ?_ rfl rfl (congrArg (λx=>[AV.int x]) e2)
     exact ne _<|bN.rt<|congrArg (λx=>[AV.int x,.int (zA (gT m):Nat),.int (sP (gT m):Nat)]) e2
noncomputable def wrI(lo sp ca he:Int)(md:List UInt8):List AO:=[.inst 1190 [ae<|.ref 1,ae<|.int lo,ae<|.int sp,ae<|.int ca,ae<|.int he,ae<|.bool ao],.ba md]
noncomputable def ya(l:List Nat):List UInt8:=l.map bz
def EW(x:Wn)(sp:Int):List AO:=wrI x.low sp x.cache x.held<|ya x.made
structure UL(x:Wn):Prop where
 low:x.low<8589934592
 cache:x.cache<=255
 held:1<=x.held
 len:x.made.length+x.held<=900000
theorem Ki(a:Nat):0<=((a%2 ^ 8:Nat):Int)/\((a%2 ^ 8:Nat):Int)<256:=⟨aD _,aF.mpr<|bA _<|aN _⟩
theorem Pz(h:UL x):LV 1 1131 2 [.ref 0] (EW x sp) (bN (.ret .none)<|EW x.shift sp):=by
 obtain⟨qfw,hc,hh,hz⟩:=h;have e0:(x.low:Int).fdiv (2 ^ (32:Int).toNat)=((x.low/2 ^ 32:Nat):Int):=nO x.low 32;have e4:(x.low:Int).fdiv (2 ^ (24:Int).toNat)=((x.low/2 ^ 24:Nat):Int):=nO x.low 24;have e5:aO (x.low:Int) (16777216-1)=((x.low%2 ^ 24:Nat):Int):=wM x.low 24;have h8:rR (aO (x.low:Int)<|16777216-1) 8:=by rw[e5];exact ny<|aJ (bA _<|aN _)<|aa rfl
 refine LV.gc (XK.enter rfl<|nfO _ (by kernel_rfl) (λh=>?_) λa b=>?_)
 . have h:x.low<4278190080\/x.low>=4294967296:=h.imp aF.mp bY.mp
   have e1:aO ((x.cache:Int)+(x.low:Int).fdiv (2 ^ (32:Int).toNat)) 255=(((x.cache+x.low/2 ^ 32)%2 ^ 8:Nat):Int):=by rw[e0];exact wM (x.cache+x.low/2 ^ 32) 8
   have e2:aO ((255:Int)+(x.low:Int).fdiv (2 ^ (32:Int).toNat)) 255=(((255+x.low/2 ^ 32)%2 ^ 8:Nat):Int):=by rw[e0];exact wM (255+x.low/2 ^ 32) 8
   have e3:aO ((x.low:Int).fdiv<|2 ^ (24:Int).toNat) 255=((x.low/2 ^ 24%2 ^ 8:Nat):Int):=by rw[e4];exact wM _ 8
   have e6:(x.held:Int)-1=((x.held-1:Nat):Int):=(cJ hh).symm;have hl:(ya x.made).length=x.made.length:=a3 _;have es:x.shift=⟨x.made++(x.cache+x.low/4294967296)%256::aS (x.held-1) ((255+x.low/4294967296)%256),x.low%16777216*256,x.low/16777216%256,1⟩:=if_pos h;refine n1 _ rfl (n1 _ ⟨e1▸Ki _,by rw[hl];exact‹a+b<=900000->a<1000000› hz⟩<|n1 _ (show 0<=aO ((255:Int)+(x.low:Int).fdiv (2 ^ (32:Int).toNat)) 255/\aO ((255:Int)+(x.low:Int).fdiv (2 ^ (32:Int).toNat)) 255<256 by rw[e2];exact Ki _)<|n1 _ (show 0<=(x.held:Int)-1/\(x.held:Int)-1<=1000000 by exact⟨‹1<=a->a-1>=0› hh,‹a+b<=900000->1000000>=b-1› hz⟩)<|n1 _ ?_<|n1 _ rfl<|n1 _ h8<|ne _ ⟨rfl,[.lst [.int<|aO ((255:Int)+(x.low:Int).fdiv (2 ^ (32:Int).toNat)) 255]],?_⟩)
   . show(ya x.made++[_]).length+(aS ((x.held:Int)-1).toNat _).length<=1000000
     rw[aj,hl,jE,e6];show x.made.length+1+(x.held-1)<=_;exact‹a+b<=900000->c<=b->a+1+c<=1000000› hz (dk _ _)
   . rw[es]
     show[AO.inst 1190 [ae<|.ref 1,ae<|.int<|aO (x.low:Int) (16777216-1)*2 ^ (8:Int).toNat,ae<|.int sp,ae<|.int<|aO ((x.low:Int).fdiv<|2 ^ (24:Int).toNat) 255,_,_],.ba<|ya x.made++[bz (aO ((x.cache:Int)+(x.low:Int).fdiv (2 ^ (32:Int).toNat)) 255).toNat]++aS ((x.held:Int)-1).toNat (bz (aO ((255:Int)+(x.low:Int).fdiv (2 ^ (32:Int).toNat)) 255).toNat),.lst [.int<|aO ((255:Int)+(x.low:Int).fdiv (2 ^ (32:Int).toNat)) 255]]=_;rw[e5,e3,e1,e2,e6,bS,bS,bS];unfold EW ya;rw[cN,bW,List.map_replicate,ax];rfl
 . have hn:¬(x.low<4278190080\/x.low>=4294967296):=λh=>h.elim (λh=>a<|aF.mpr h) λh=>b (bY.mpr h)
   have es:x.shift=⟨x.made,x.low%16777216*256,x.cache,x.held+1⟩:=if_neg hn;refine n1 _ h8<|ne _ ⟨rfl,[],?_⟩;rw[es];show[AO.inst 1190 [ae<|.ref 1,ae<|.int<|aO (x.low:Int) (16777216-1)*2 ^ (8:Int).toNat,_,_,_,_],_]=_;rw[e5];rfl
noncomputable def Wn.UM(x:Wn)(span:Nat):Wn:=if span<16777216 then x.shift else x
noncomputable def PA(span:Nat):Nat:=if span<16777216 then span*256 else span
theorem EX{lo:Int}{sp:Int}{span:Nat}(h:UL x)(e1:lo=x.low)(e2:sp=span)(hs:span<2 ^ 60):LV 2 1138 2 [.ref 0] (wrI lo sp x.cache x.held<|ya x.made) (bN (.ret .none)<|EW (x.UM span) (PA span:Nat)):=by
 subst e1 e2;unfold Wn.UM PA;refine XM.enter rfl<|nf _ (λa=>?_) λa=>?_
 . rw[if_pos<|aF.mp a,if_pos<|aF.mp a]
   exact n1 _ (ny hs)<|nc _ [0,1] (Pz h)<|ne _ bN.i
 . rw[if_neg λb=>a<|aF.mpr b,if_neg λb=>a<|aF.mpr b]
   exact ne _ bN.i
theorem PB{lo}:LV 1 1145 2 [.ref 0] (wrI lo sp ca he md) (bN (.ret .none)<|wrI lo sp ca he md):=XN.enter rfl<|ne _ bN.i
noncomputable def Wn.tG(x:Wn)(span p:Nat)(b:Bool):Wn:=if b then{x with low:=x.low+span/2048*p} else x
noncomputable def NR(span p:Nat)(b:Bool):Nat:=if b then span-span/2048*p else span/2048*p
noncomputable def UN(f:Nat->Nat)(j:Nat)(b:Bool)(i:Nat):Nat:=if i=j then nxt (f j) b else f i
noncomputable def Wn.bit(x:Wn)(span p:Nat)(b:Bool):Wn:=(x.tG span p b).UM<|NR span p b
theorem X5{x:Wn}{n:Nat}(hj:j<n)(hp:f j<=2048)(hs:span<4294967296)(h:UL (x.tG span (f j) b)):
 LV 3 1152 3 [.ref 0,.ref 2,.int j,.int (iN b:Nat)] (EW x span++[.tab n f]) (bN (.ret .none)<|EW (x.bit span (f j) b) (PA (NR span (f j) b):Nat)++[.tab n<|UN f j b]):=by
 have e1:(span:Int).fdiv (2 ^ (11:Int).toNat)*(f j:Nat)=((span/2048*f j:Nat):Int):=congrArg (· *((f j:Nat):Int))<|nO span 11;have hb:span/2048*f j<=span:=az (dj _ hp)<|f9 _ _;have hq:span/2048*f j<2 ^ 60:=a7 hb (aZ hs<|by decide);erw [XO.enter rfl<|nc _ [] (X2 (b:=b))<|nc _ [0,1] PB ?_,n1 _ (X1 hj)<|n1 _ rfl<|n1 _ (mulR<|a7 hp<|by decide) ?_]
 cases b with
 |false=>
  erw [pn];intro V;rwa[na _ rfl,nc _ [] (EV (b:=ao) hp)<|n1 _ (NP hj) ?_,nc _ [0,1] (EX h rfl e1 hq)<|ne _ bN.i]
 |true=>
  erw [pn];intro V;rwa[nb _ (show ¬((iN ah:Nat):Int)=0 by decide),nc _ [] (EV (b:=ah) hp)<|n1 _ (NP hj) ?_,nc _ [0,1] (EX h (congrArg ((x.low:Int)+ ·) e1) ((congrArg ((span:Int)- ·) e1).trans (cJ hb).symm)<|a7 (dk _ _)<|aZ hs<|by decide)<|ne _ bN.i]
structure St where
 x:Wn
 e:ES
noncomputable def ES.X6(e:ES):Ev->Nat
 |.bit t i b=>NR e.span (e.ms t i) b
 |.half _=>e.span/2
noncomputable def St.x0(σ:St):Ev->Wn
 |.bit t i b=>σ.x.tG σ.e.span (σ.e.ms t i) b
 |.half b=>if b then{σ.x with low:=σ.x.low+σ.e.span/2} else σ.x
noncomputable def St.ev(σ:St)(v:Ev):St:=⟨(σ.x0 v).UM<|σ.e.X6 v,σ.e.ev v⟩
noncomputable def St.run(σ:St)(l:List Ev):St:=l.foldl St.ev σ
structure St.Ok(σ:St)(r:Nat):Prop where
 at_:HJ σ.x σ.e
 e:σ.e.Ok
 room:σ.e.k+r<=800000
theorem ES.G3{e:ES}:e.norm.span=PA e.span:=by unfold ES.norm PA;split<;>rfl
theorem ES.EY{e:ES}:e.norm.ms=e.ms:=by unfold ES.norm;split<;>rfl
theorem ES.NS{e:ES}:e.norm.k<=e.k+1:=by unfold ES.norm;split<;>simp
theorem ES.EZ{e:ES}:(e.ev v).span=PA (e.X6 v):=by
 have:(e.xI v).span=e.X6 v:=by
  cases v with
  |bit t i b=>cases b<;>rfl
  |half b=>rfl
 unfold ES.ev;rw[ES.G3,this]
theorem ES.Fb{e:ES}:(e.ev<|.bit t i b).ms=e.ms.upd t i b:=by
 have:(e.xI<|.bit t i b).ms=e.ms.upd t i b:=by cases b<;>rfl
 unfold ES.ev;rw[ES.EY,this]
theorem ES.lR{e:ES}:(e.ev<|.half b).ms=e.ms:=ES.EY
theorem MS.Br{ms:MS}:ms.upd t i b t=UN (ms t) i b:=by
 funext j
 unfold MS.upd UN;by_cases h:j=i
 . rw[if_pos ⟨rfl,h⟩,if_pos h,h]
 . rw[if_neg λq=>h q.2,if_neg h]
theorem MS.zB{ms:MS}(h:t'≠t):ms.upd t i b t'=ms t':=by
 funext j
 exact if_neg λq=>h q.1
theorem St.PC{σ:St}(h:σ.Ok r)(v:Ev):HJ (σ.x0 v) (σ.e.xI v):=by
 have h1:=h.e.lo
 cases v with
 |bit t i b=>
  have hb:=pj h.e.lo<|h.e.ms t i
  cases b with
  |true=>exact h.at_.grow _ _<|‹a+b=c->b+a<=c› (ay<|bM hb.2.2)
  |false=>exact h.at_.grow (ms:=σ.e.ms.upd t i ao) 0 _ (by show 0+σ.e.span/2048*σ.e.ms t i<=_;exact‹a<b->0+a<=b› hb.2.2)
 |half b=>
  cases b with
  |true=>exact h.at_.grow (ms:=σ.e.ms) (σ.e.span/2) (σ.e.span/2)<|‹2*a+b=c->a+a<=c› (cu _ _)
  |false=>exact h.at_.grow (ms:=σ.e.ms) 0 (σ.e.span/2)<|‹2*a+b=c->(0+a<=c)^2› (cu _ _)
theorem St.um{σ:St}(h:σ.Ok (r+1))(v:Ev):(σ.ev v).Ok r:=by
 obtain⟨-,a,-,-,-,k⟩:=ES.wJ h.e v
 have hs:(σ.e.xI v).span=σ.e.X6 v:=by
  cases v with
  |bit t i b=>cases b<;>rfl
  |half b=>rfl
 have h1:=(St.PC h v).norm<|‹65536<=a->(0<a)^65536› a;refine⟨?_,ES.um h.e v,?_⟩
 . rw[hs] at h1;exact h1
 . have:=h.room
   have h2:=ES.NS (e:=σ.e.xI v);show((σ.e.xI v).norm).k+r<=_;exact‹a=b->b+(c+1)<=800000->d<=a+1->d+c<=800000› k this h2
theorem St.kZ:∀{l:List Ev} {σ:St} {r:Nat},σ.Ok (l.length+r)->(σ.run l).Ok r
 |[],σ,r,h=>by rw[show([]:List Ev).length+r=r from pJ r] at h;exact h
 |v::l,σ,r,h=>St.kZ (l:=l) (St.um (by rw[bQ,show l.length+1+r=l.length+r+1 by exact‹a+1+b=a+b+1›] at h;exact h) v)
theorem St.wok{σ:St}(h:σ.Ok r)(v:Ev):UL (σ.x0 v):=by
 refine nn λzn=>?_;obtain⟨ok,-⟩:=St.PC h v;obtain⟨-,a,-,-,-,k⟩:=ES.wJ h.e v;erw [zn,-zn];have h1:=ok.top;have h2:=ok.len;have h3:=h.room;exact⟨by exact‹65536<=a->(b+a<=8589934592)^65536->(b<8589934592)^65536› a h1,ok.cache,ok.held,by exact‹a=b->c+d=a+1->b+e<=800000->c+d<=900000› k h2 h3⟩
def Fc(σ:St)(t:TB)(n:Nat):List AO:=EW σ.x σ.e.span++[.tab n<|σ.e.ms t]
theorem St.SG{σ:St}:Fc (σ.ev<|.bit t i b) t n=EW (σ.x.bit σ.e.span (σ.e.ms t i) b) (PA (NR σ.e.span (σ.e.ms t i) b):Nat)++[.tab n<|UN (σ.e.ms t) i b]:=by
 show EW ((σ.x0<|.bit t i b).UM<|σ.e.X6<|.bit t i b) ((σ.e.ev<|.bit t i b).span:Nat)++[.tab n<|(σ.e.ev<|.bit t i b).ms t]=_;rw[ES.EZ,ES.Fb,MS.Br];rfl
theorem Dp{j:Int}{x:Int}(ej:j=(i:Nat))(ex:x=(iN b:Nat))(hi:i<n)(h:σ.Ok r):LV 3 1152 3 [.ref 0,.ref 2,.int j,.int x] (Fc σ t n) (bN (.ret .none)<|Fc (σ.ev<|.bit t i b) t n):=by
 subst ej ex;rw[St.SG];exact X5 hi (az (h.e.ms t i).2<|aa rfl) h.e.hi<|St.wok h<|.bit t i b
theorem St.pv{σ:St}:σ.run (v::l)=(σ.ev v).run l:=rfl
theorem Fd{i c:Nat}(hi:i<c)(hc:c<=31){node:Nat}(h:node<2 ^ (i+1)):node<2 ^ 60/\node<2 ^ c:=
 have h1:=aJ h (cI (by exact eJ _) hi)
 ⟨aJ h1 (cI (by exact eJ _)<|az hc<|by exact nI rfl),h1⟩
theorem tM(h1:1<=node)(h:node<2 ^ (i+1)):1<=2*node+iN b/\2*node+iN b<2 ^ (i+1+1):=
 ⟨az h1<|az (Nat.le_mul_of_pos_left node<|aN _)<|aU _ _,aJ (dm (tL b) _)<|az (dj 2<|L5 h)<|jt<|eQ _ _⟩
theorem jh(i c:Nat):c-(i+1)=c-1-i:=(Nat.sub_add_eq c i 1).trans<|Lo c i 1
theorem mI(hi:i<c):c-i=c-1-i+1:=(Nat.succ_pred<|Nat.sub_ne_zero_of_lt hi).symm.trans<|congrArg Nat.succ<|Lo c i 1
theorem Fe{τ:St}(hi:i<c)(h:τ.Ok (c-i+r)):(τ.ev v).Ok (c-(i+1)+r):=by
 rw[mI hi, <-jh,K6] at h;exact St.um h _
theorem X7{σ:St}{v:Nat}{start:Nat}(hc:c<=31)(hv:v<2 ^ c)(hn:start+2 ^ c<=n)(h:σ.Ok (c+r)):
 LV 4 1166 3 [.ref 0,.ref 2,.int start,.int c,.int v] (Fc σ t n) (bN (.ret .none)<|Fc (σ.run<|cE t start 1<|ja v c) t n):=by
 refine XR.enter rfl<|nc _ [] (Kh hv<|az hc<|aa rfl) ?_
 refine nr _ c _ (λ(s:Nat×St) i=>(1<=s.1/\s.1<2 ^ (i+1))/\s.2.Ok (c-i+r)/\s.2.run (cE t start s.1<|ja v<|c-i)=σ.run (cE t start 1<|ja v c))
  (λs i=>[ae<|.ref 0,ae<|.ref 2,ae<|.int start,ae<|.int c,ae<|.int v,ae<|.int s.1,aq,aq]) (λs i=>Fc s.2 t n) (1,σ) (l5.down<|az hc<|aa rfl) (gp ⟨aA 1,(aA _:1<2 ^ (0+1))⟩ h rfl) ⟨rfl,rfl,rfl,rfl,rfl,rfl,trivial⟩ (λi s hi hs tu=>?_) λs hs=>?_
 . obtain⟨node,τ⟩:=s
   erw [nn λzn=>?_,lE hs λpx Kj xZ=>?_,-hs,aT (Fd hi hc px.2) λHK pc=>?_,zn,-zn];rw[mI hi] at xZ;erw [n1 _ (decide_eq_true<|aD _)<|nc _ [0,1,2] (Dp (σ:=τ) (i:=start+node) (b:=v.testBit<|c-1-i) rfl (nP v _) (aJ (dm pc _) hn) Kj)<|n1 _ (ny HK) ?_,tu _ rfl (2*node+iN (v.testBit<|c-1-i),τ.ev<|.bit t (start+node)<|v.testBit<|c-1-i) (gp (tM px.1 px.2) (Fe hi Kj) ?_) ⟨rfl,rfl,rfl,rfl,rfl,?_,trivial⟩ rfl]
   . rwa[af (jh i c),xZ]
   . rwa[af (nP _ _),congrArg (λx=>ae<|AV.int x)<|sg _ _]
 . rw[cS] at hs
   exact ne _ (bN.h (congrArg (Fc · t n) hs.2.2))
theorem PD(hi:i<c):Av (v/2 ^ i) (c-i)=v.testBit i::Av (v/2 ^ (i+1)) (c-(i+1)):=by
 have e0:(v/2 ^ i).testBit 0=v.testBit i:=af (Nat.testBit_div_two_pow _ _)<|af (pJ _) rfl;refine af (mI hi)<|af (jh i c)<|dq e0<|af (c3 _ _)<|dq (df _ _ _) ?_;rfl
theorem X8{σ:St}{v:Nat}{start:Nat}(hc:c<=31)(hv:v<2 ^ c)(hn:start+2 ^ c<=n)(h:σ.Ok (c+r)):
 LV 4 1173 3 [.ref 0,.ref 2,.int start,.int c,.int v] (Fc σ t n) (bN (.ret .none)<|Fc (σ.run<|cE t start 1<|Av v c) t n):=by
 refine XS.enter rfl<|nc _ [] (Kh hv<|az hc<|aa rfl) ?_
 refine nr _ c _ (λ(s:Nat×St) i=>(1<=s.1/\s.1<2 ^ (i+1))/\s.2.Ok (c-i+r)/\s.2.run (cE t start s.1<|Av (v/2 ^ i)<|c-i)=σ.run (cE t start 1<|Av v c))
  (λs i=>[ae<|.ref 0,ae<|.ref 2,ae<|.int start,ae<|.int c,ae<|.int v,ae<|.int s.1,aq,aq]) (λs i=>Fc s.2 t n) (1,σ) (l5.up<|az hc<|aa rfl) (gp ⟨aA 1,(aA _:1<2 ^ (0+1))⟩ h<|by refine af (fF _)<|af (ku _) ?_;rfl) ⟨rfl,rfl,rfl,rfl,rfl,rfl,trivial⟩ (λi s hi hs tu=>?_) λs hs=>?_
 . obtain⟨node,τ⟩:=s
   erw [nn λzn=>?_,lE hs λpx Kj xZ=>?_,-hs,aT (Fd hi hc px.2) λHK pc=>?_,zn,-zn,n1 _ (decide_eq_true<|aD _),nc _ [0,1,2] (Dp (σ:=τ) (i:=start+node) (b:=v.testBit i) rfl (nP v _) (aJ (dm pc _) hn) Kj)<|n1 _ (ny HK) ?_,tu _ rfl (2*node+iN (v.testBit i),τ.ev<|.bit t (start+node)<|v.testBit i) (gp (tM px.1 px.2) (Fe hi Kj) ?_) ⟨rfl,rfl,rfl,rfl,rfl,?_,trivial⟩ rfl]
   . rw[PD hi] at xZ;exact xZ
   . rwa[af (nP _ _),congrArg (λx=>ae<|AV.int x)<|sg _ _]
 . rw[cS] at hs
   exact ne _ (bN.h (congrArg (Fc · t n) hs.2.2))
def zC(σ:St):List AO:=EW σ.x σ.e.span
theorem Kk{x:Int}(e:x=(iN b:Nat)):(x=1)=(b=ah):=by subst e;cases b<;>(decide)
theorem X9{σ:St}{v:Nat}(hc:c<=31)(hv:v<2 ^ c)(h:σ.Ok (c+r)):LV 4 1159 2 [.ref 0,.int c,.int v] (zC σ) (bN (.ret .none)<|zC<|σ.run<|(ja v c).map .half):=by
 erw [XQ.enter rfl<|nc _ [] (Kh hv<|az hc<|aa rfl)<|nc _ [0,1] PB ?_,nr _ c _ (λ(τ:St) i=>τ.Ok (c-i+r)/\τ.run ((ja v<|c-i).map .half)=σ.run ((ja v c).map .half)) (λs i=>[ae<|.ref 0,ae<|.int c,ae<|.int v,aq]) (λs i=>zC s) σ (l5.down<|az hc<|aa rfl) ⟨h,rfl⟩ ⟨rfl,rfl,rfl,trivial⟩ (λi τ hi hs tu=>?_) λs hs=>?_]
 . refine pn ?_;intro V;refine aT hs λKj xZ=>?_;clear hs
   have es:(τ.e.span:Int).fdiv (2 ^ (1:Int).toNat)=((τ.e.span/2:Nat):Int):=nO _ 1;have hw:=St.wok Kj<|.half<|v.testBit<|c-1-i;have hr:(τ.ev<|.half<|v.testBit<|c-1-i).run ((ja v<|c-(i+1)).map .half)=σ.run ((ja v c).map .half):=by erw [af (jh i c)];rw[mI hi] at xZ;exact xZ
   have he:∀b,v.testBit (c-1-i)=b->zC (τ.ev<|.half<|v.testBit<|c-1-i)=EW ((τ.x0<|.half b).UM<|τ.e.span/2) (PA (τ.e.span/2):Nat):=λb hb=>by subst hb;show EW _ ((τ.e.ev _).span:Nat)=_;erw [af ES.EZ];rfl
   refine n1 _ rfl<|n1 _ (decide_eq_true<|aD _)<|nf _ (λa=>?_) λa=>?_
   . refine pn ?_;intro V;have hb:v.testBit (c-1-i)=ah:=(Kk<|nP v _).mp a
     rw[hb] at hw;refine nc _ [0,1] (EX hw (congrArg ((τ.x.low:Int)+ ·) es) es ?_) ?_
     . exact a7 (gE _ _)<|aZ Kj.e.hi<|aa rfl
     . exact tu _ rfl (τ.ev<|.half<|v.testBit<|c-1-i) ⟨Fe hi Kj,hr⟩ ⟨rfl,rfl,rfl,trivial⟩ (he ah hb).symm
   . refine pn ?_;intro V;have hb:v.testBit (c-1-i)=ao:=by
      cases hb:v.testBit (c-1-i) with
      |false=>rfl
      |true=>exact(a<|(Kk<|nP v _).mpr hb).elim
     rw[hb] at hw;refine nc _ [0,1] (EX hw rfl es ?_) ?_
     . exact a7 (gE _ _)<|aZ Kj.e.hi<|aa rfl
     . exact tu _ rfl (τ.ev<|.half<|v.testBit<|c-1-i) ⟨Fe hi Kj,hr⟩ ⟨rfl,rfl,rfl,trivial⟩ (he ao hb).symm
 . refine pn ?_;intro V;rw[cS] at hs
   exact ne _<|bN.h<|congrArg zC hs.2
noncomputable def Kl:Nat->Wn->Wn
 |0,x=>x
 |n+1,x=>Kl n x.shift
theorem Wn.Ok.wok(h:x.Ok 1 k)(hk:k<=800010):UL x:=⟨by have:=h.top;exact‹a+1<=8589934592->a<8589934592› this,h.cache,h.held,by have:=h.len;exact‹a<=800010->b+c=a+1->b+c<=900000› hk this⟩
theorem Wn.Ok.sh{x:Wn}(h:x.Ok 1 k):x.shift.Ok 1 (k+1):=(Wn.k7 h (aa rfl)<|aN _).2.mono<|aN _
theorem PE(h:σ.Ok 0):LV 2 1187 2 [.ref 0] (zC σ) (bN (.ret<|.bytes<|ya σ.x.done.made) [.inst 1190 [ae<|.ref 1,ae<|.int σ.x.done.low,ae<|.int σ.e.span,ae<|.int σ.x.done.cache,ae<|.int σ.x.done.held,ae<|.bool ah],.ba<|ya σ.x.done.made]):=by
 have h0:σ.x.Ok 1 σ.e.k:=h.at_.ok.mono<|az (aN _) h.e.lo;have hr:=h.room;erw [XT.enter rfl,nr _ 5 _ (λ(y:Wn) i=>y.Ok 1 (σ.e.k+i)/\Kl (5-i) y=σ.x.done) (λs i=>[ae<|.ref 0,aq]) (λy i=>EW y σ.e.span) σ.x (l5.up (n:=5)<|aa rfl) ⟨h0,rfl⟩ ⟨rfl,trivial⟩ (λi y hi hs tu=>?_) λy hs=>?_]
 . have hw:UL y:=hs.1.wok (Nat.add_le_add hr<|az (bM hi) (aa rfl:5<=10))
   erw [nc _ [0,1] (Pz hw),tu _ rfl y.shift ⟨hs.1.sh,?_⟩ ⟨rfl,trivial⟩ rfl];have hd:=hs.2;rw[mI hi, <-jh i 5] at hd;exact hd
 . refine aT hs λhy hd=>?_;clear hs
   have hd:y=σ.x.done:=hd;subst hd;have hl:=hy.len;exact n1 _ (show(ya σ.x.done.made).length<=1000000 by unfold ya;rw[a3];exact‹a+0<=800000->b+c=a+5+1->b<=1000000› hr hl)<|ne _ bN.i
theorem Yb:LV 1 1124 1 [.ref 0] [.inst 1190<|aS 6 aq] (bN (.ret .none)<|EW Wn.start 4294967295):=
 XJ.enter rfl (ne _ bN.i)
noncomputable def SH(d:List UInt8)(pl sp co:Int):List AO:=[.inst 1106 [ae<|.bytes d,ae<|.int d.length,ae<|.int 0,ae<|.int pl,ae<|.int sp,ae<|.int co]]
def Dq(d:List UInt8)(x:RS):List AO:=SH d x.place x.span x.code
theorem Km{d:List UInt8}(h:p<d.length)(hd:d.length<=1000000):LV 1 1047 1 [.ref 0] (SH d p sp co) (bN (.ret<|.int (d.getD p 0).toNat)<|SH d (p+1:Nat) sp co):=by
 erw [XC.enter rfl<|nb _ (Ll.mpr<|aF.mpr h) ?_,pn];intro V;have e:(p:Int)+1-1=(p:Nat):=l9 _ _;rwa[n1 _ (show((0:Int)<=(p:Int)+1-1/\(p:Int)+1-1<d.length)/\d.length<=1000000 by rw[e];exact⟨⟨aD _,aF.mpr h⟩,hd⟩),ne _<|bN.ri<|congrArg (λk:Int=>((d.getD k.toNat 0).toNat:Int)) e]
theorem PF(c b:Nat)(h:b<256):dM ((c:Int)*2 ^ (8:Int).toNat) (b:Nat)=((c*256+b:Nat):Int):=by
 rw[show(c:Int)*2 ^ (8:Int).toNat=((c*2 ^ 8:Nat):Int) from rfl,bOr,zz<|show b<2 ^ 8 from h]
theorem Ff{x:RS}{sp:Int}{co:Int}(es:sp=x.span)(ec:co=x.code)(h:x.span<16777216->x.place<d.length)(hd:d.length<=1000000)(hc:x.code<4294967296):LV 2 1075 1 [.ref 0] (SH d x.place sp co) (bN (.ret .none)<|Dq d<|x.fill d):=by
 subst es ec;unfold RS.fill;refine XD.enter rfl<|nf _ (λa=>?_) λa=>?_
 . have hs:x.span<16777216:=aF.mp a
   rw[if_pos hs];rwa[n1 _ (ny<|aZ hs<|aa rfl)<|n1 _ (ny<|aZ hc<|aa rfl) ?_,nc _ [0] (Km (h hs) hd)<|ne _<|bN.h<|congrArg (SH d (x.place+1:Nat) (x.span*256:Nat))<|PF _ _<|fW _]
 . rw[if_neg λb=>a<|aF.mpr b]
   exact ne _ bN.i
theorem Yc{ji:Int}(ej:ji=(j:Nat))(hj:j<n)(hp:f j<=2048)(hs:x.span<4294967296)(hc:x.code<4294967296)(hd:d.length<=1000000)(h:(if x.code>=x.span/2048*f j then x.span-x.span/2048*f j else x.span/2048*f j)<16777216->x.place<d.length):
 LV 3 1082 2 [.ref 0,.ref 1,.int ji] (Dq d x++[.tab n f]) (bN (.ret<|.int (iN (RS.bit d (f j) x).1:Nat))<|Dq d (RS.bit d (f j) x).2++[.tab n<|UN f j (RS.bit d (f j) x).1]):=by
 subst ej;have e1:(x.span:Int).fdiv (2 ^ (11:Int).toNat)*(f j:Nat)=((x.span/2048*f j:Nat):Int):=congrArg (· *((f j:Nat):Int))<|nO x.span 11;have hb:x.span/2048*f j<=x.span:=az (dj _ hp)<|f9 _ _;erw [XF.enter rfl (n1 _ (X1 hj)<|n1 _ rfl<|n1 _ (mulR<|a7 hp<|by decide) ?_),nf _ (λa=>?_) λa=>?_]
 . have hq:x.code>=x.span/2048*f j:=bY.mp (e1▸(show(x.span:Int).fdiv (2 ^ (11:Int).toNat)*(f j:Nat)<=x.code from a))
   have er:RS.bit d (f j) x=(ah,RS.fill d ⟨x.place,x.span-x.span/2048*f j,x.code-x.span/2048*f j⟩):=if_pos hq;rw[if_pos hq] at h;erw [nb _ (show ¬(1:Int)=0 by decide),nc _ [] (EV (b:=ah) hp)<|n1 _ (NP hj) ?_,nc _ [0] (Ff (x:=⟨x.place,x.span-x.span/2048*f j,x.code-x.span/2048*f j⟩) ((congrArg ((x.span:Int)- ·) e1).trans (cJ hb).symm) ((congrArg ((x.code:Int)- ·) e1).trans (cJ hq).symm) h hd<|a7 (dk _ _) hc)];rw[er];exact ne _ bN.i
 . have hq:¬x.code>=x.span/2048*f j:=λq=>a (show(x.span:Int).fdiv (2 ^ (11:Int).toNat)*(f j:Nat)<=x.code from e1▸bY.mpr q)
   have er:RS.bit d (f j) x=(ao,RS.fill d ⟨x.place,x.span/2048*f j,x.code⟩):=if_neg hq;rw[if_neg hq] at h;erw [na _ rfl,nc _ [] (EV (b:=ao) hp)<|n1 _ (NP hj) ?_,nc _ [0] (Ff (x:=⟨x.place,x.span/2048*f j,x.code⟩) e1 rfl h hd hc)];rw[er];exact ne _ bN.i
structure Dc where
 T:fM
 done:List Ev
noncomputable def Dc.add(D:Dc)(l:List Ev):Dc:=⟨D.T,D.done++l⟩
structure Dc.Ok(D:Dc)(todo:List Ev):Prop where
 t:D.T.Ok
 evs:D.T.evs=D.done++todo
 len:D.T.d.length<=1000000
theorem Dc.Ok.step{D:Dc}(h:D.Ok (l++todo)):(D.add l).Ok todo:=⟨h.t,h.evs.trans (ax ..).symm,h.len⟩
theorem Dc.eC{D:Dc}:(D.add l).add m=D.add (l++m):=congrArg (Dc.mk D.T)<|ax ..
theorem Dc.add_nil{D:Dc}:D.add []=D:=congrArg (Dc.mk D.T)<|bD _
noncomputable abbrev Dc.x(D:Dc):RS:=D.T.rs D.done
noncomputable abbrev Dc.ms(D:Dc):MS:=(D.T.es D.done).ms
def dO(D:Dc)(t:TB)(n:Nat):List AO:=Dq D.T.d D.x++[.tab n<|D.ms t]
theorem Dc.Dr{D:Dc}:(D.add [.bit t i b]).ms=D.ms.upd t i b:=by
 show(D.T.es<|D.done++[_]).ms=_;exact af fM.pV<|af ES.Fb rfl
theorem Dc.NT{D:Dc}:(D.add [.half b]).ms=D.ms:=by
 show(D.T.es<|D.done++[_]).ms=_;exact af fM.pV<|af ES.lR rfl
theorem qY(h:x.span<16777216):(RS.fill d x).place=x.place+1:=by unfold RS.fill;(first |exact(if_pos h) |exact congrArg _ (if_pos h) |exact af (if_pos h) rfl)
theorem G4(h:(if x.code>=x.span/2048*p then x.span-x.span/2048*p else x.span/2048*p)<16777216):(RS.bit d p x).2.place=x.place+1:=by
 unfold RS.bit;by_cases q:x.code>=x.span/2048*p
 . rw[if_pos q] at h |-;exact qY h
 . rw[if_neg q] at h |-;exact qY h
theorem Ds{ji:Int}(ej:ji=(i:Nat))(hi:i<n)(h:D.Ok (.bit t i b::todo)):LV 3 1082 2 [.ref 0,.ref 1,.int ji] (dO D t n) (bN (.ret<|.int (iN b:Nat))<|dO (D.add [.bit t i b]) t n):=by
 have e:=D.T.bit h.t h.evs;have h2:=(Dc.Ok.step (l:=[.bit t i b]) h);have ok1:=D.T.EM h.t h.evs;have ok2:=D.T.EM h2.t h2.evs
 have key:=Yc (d:=D.T.d) (x:=D.x) (f:=D.ms t) (n:=n) (j:=i) ej hi (az ((D.T.yC h.t D.done).ms t i).2<|aa rfl) ok1.2.2.1 (aZ ok1.2.2.2 ok1.2.2.1) h.len λju=>by
  have e3:=G4 (d:=D.T.d) ju;rw[e] at e3;exact aJ (bH _)<|az (jt e3.symm) ok2.1
 rw[e] at key
 have e6:dO (D.add [.bit t i b]) t n=Dq D.T.d (D.T.rs<|D.done++[.bit t i b])++[.tab n<|UN (D.ms t) i b]:=by
  show Dq _ _++[.tab n<|(D.add [.bit t i b]).ms t]=_;refine af Dc.Dr<|af MS.Br ?_;rfl
 exact af e6<|key
theorem SI(hi:i<c):2*(2 ^ i+v/2 ^ (c-i))+iN (v.testBit<|c-1-i)=2 ^ (i+1)+v/2 ^ (c-(i+1)):=by
 have h:=iM v<|c-1-i;exact af (mI hi)<|af (jh i c)<|af (c3 _ _)<|af (c3 _ _)<|dq (df _ _ _)<|af h<|af (qaX _ _ _)<|af (kh _ _ _)<|af (eQ 2<|2 ^ i)<|af (cu _ _) rfl
theorem NU(hi:i<c)(hv:v<2 ^ c):2 ^ i+v/2 ^ (c-i)<2 ^ (i+1):=by
 refine af (c3 _ _)<|af (Nat.mul_two _) ?_;exact dm (hG<|by rwa[dq (kx _ _ _)<|af (ay<|bM hi) ?_,hv]) _
theorem Yd{D:Dc}{start}(hc:c<=31)(hv:v<2 ^ c)(hn:start+2 ^ c<=n)(h:D.Ok (cE t start 1 (ja v c)++todo)):
 LV 4 1096 2 [.ref 0,.ref 1,.int start,.int c] (dO D t n) (bN (.ret<|.int v)<|dO (D.add<|cE t start 1<|ja v c) t n):=by
 erw [XH.enter rfl]
 refine nr _ c _ (λ(E:Dc) i=>E.Ok (cE t start (2 ^ i+v/2 ^ (c-i)) (ja v<|c-i)++todo)/\E.add (cE t start (2 ^ i+v/2 ^ (c-i))<|ja v<|c-i)=D.add (cE t start 1<|ja v c))
  (λs i=>[ae<|.ref 0,ae<|.ref 1,ae<|.int start,ae<|.int c,ae<|.int (2 ^ i+v/2 ^ (c-i):Nat),aq]) (λs i=>dO s t n) D (l5.up<|az hc<|aa rfl) (by refine af (lI _)<|af (dS hv) ?_;exact⟨h,rfl⟩)
  ⟨rfl,rfl,rfl,rfl,by refine af (lI _)<|af (dS hv) ?_;rfl,trivial⟩ (λi E hi hs tu=>?_) λE hs=>?_
 . refine aT hs λhE rA=>?_;clear hs
   have en:=SI (v:=v) hi;refine aT (Fd hi hc<|NU hi hv) λHK pc=>?_;generalize 2 ^ i+v/2 ^ (c-i)=node at hE rA en HK pc |-;rw[mI hi] at hE rA;erw [n1 _ (ny HK)<|nc _ [0,1] (Ds (D:=E) (i:=start+node) rfl (aJ (dm pc _) hn) hE) ?_,tu _ rfl (E.add [.bit t (start+node)<|v.testBit<|c-1-i]) ?_ ⟨rfl,rfl,rfl,rfl,?_,trivial⟩ rfl]
   . dsimp only;rwa[dq en<|af (jh i c) ?_,⟨Dc.Ok.step (l:=[_]) hE,Dc.eC.trans rA⟩]
   . rwa[dq en,congrArg (λx=>ae<|AV.int x)<|sg _ _]
 . refine aT hs λhE rA=>?_;clear hs
   rw[cS,fF,ku] at*;rwa[dq rA,n1 _ (pq (a:=1) (az hc<|aa rfl)<|aa rfl) (ne _ ⟨congrArg (λx=>AR.ret<|.int x) ?_,congrArg (dO · t n) Dc.add_nil.symm⟩),af (Kg _)<|(cJ<|aU (2 ^ c) v).symm.trans<|congrArg lV<|i9 (2 ^ c) v]
theorem Ye(a i:Nat)(b:Bool):dM ((a%2 ^ i:Nat):Int) (((iN b:Nat):Int)*2 ^ ((i:Nat):Int).toNat)=((a%2 ^ i+2 ^ i*iN b:Nat):Int):=by
 exact af (bS _) (af (show((iN b:Nat):Int)*2 ^ i=((iN b*2 ^ i:Nat):Int) by rw[qe,lj];rfl)<|af (bOr _ _)<|af (Nat.or_comm _ _)<|af (zz<|bA _<|g9<|aN _)<|af (eQ _ _)<|af (eO _ _) rfl)
theorem Yg{D:Dc}{start}(hc:c<=31)(hv:v<2 ^ c)(hn:start+2 ^ c<=n)(h:D.Ok (cE t start 1 (Av v c)++todo)):
 LV 4 1103 2 [.ref 0,.ref 1,.int start,.int c] (dO D t n) (bN (.ret<|.int v)<|dO (D.add<|cE t start 1<|Av v c) t n):=by
 erw [XI.enter rfl]
 refine nr _ c _ (λ(s:Nat×Dc) i=>(1<=s.1/\s.1<2 ^ (i+1))/\s.2.Ok (cE t start s.1 (Av (v/2 ^ i)<|c-i)++todo)/\s.2.add (cE t start s.1<|Av (v/2 ^ i)<|c-i)=D.add (cE t start 1<|Av v c))
  (λs i=>[ae<|.ref 0,ae<|.ref 1,ae<|.int start,ae<|.int c,ae<|.int s.1,ae<|.int (v%2 ^ i:Nat),aq,aq]) (λs i=>dO s.2 t n) (1,D) (l5.up<|az hc<|aa rfl) ⟨⟨aA 1,(aA _:1<2 ^ (0+1))⟩,by rwa[af (fF _)<|af (ku _) ?_,⟨h,rfl⟩]⟩
  ⟨rfl,rfl,rfl,rfl,rfl,by refine af (fF _)<|af (Nat.mod_one _) ?_;rfl,trivial⟩ (λi s hi hs tu=>?_) λs hs=>?_
 . refine pn ?_;intro V;obtain⟨node,E⟩:=s
   erw [nn λzn=>?_,lE hs λpx hE rA=>?_,-hs,aT (Fd hi hc px.2) λHK pc=>?_,zn,-zn];rw[PD hi] at hE rA;erw [nc _ [0,1] (Ds (D:=E) (i:=start+node) rfl (aJ (dm pc _) hn) hE),n1 _ (ny HK)<|n1 _ (pq (az (bM hi)<|az hc<|aa rfl)<|aZ (tL _)<|aa rfl) ?_,pn];intro V;rwa[tu _ rfl (2*node+iN (v.testBit i),E.add [.bit t (start+node)<|v.testBit i]) (gp (tM px.1 px.2) (Dc.Ok.step (l:=[_]) hE)<|Dc.eC.trans rA) ⟨rfl,rfl,rfl,rfl,congrArg (λx=>ae<|AV.int x)<|sg _ _,?_,trivial⟩ rfl,af Nat.mod_pow_succ<|dq (iM _ _) ?_,congrArg (λx=>ae<|AV.int x)<|Ye v i _]
 . obtain⟨-,hE,rA⟩:=hs
   rw[cS,oq hv] at*;exact ne _ ⟨rfl,congrArg (dO · t n)<|Dc.add_nil.symm.trans rA⟩
def Yh(D:Dc):List AO:=Dq D.T.d D.x
theorem NV(h:(RS.fill d x).code<(RS.fill d x).span):x.code<x.span:=by
 unfold RS.fill at h
 split at h
 . exact Nat.lt_of_mul_lt_mul_right (a:=256)<|a7 (aU _ _) h
 . exact h
theorem yE(h:(RS.fill d x).place<=d.length)(hs:x.span<16777216):x.place<d.length:=by rw[qY hs] at h;exact h
theorem Yi(hi:i<c):2*(v/2 ^ (c-i))+iN (v.testBit<|c-1-i)=v/2 ^ (c-(i+1)):=by
 exact af (mI hi)<|af (jh i c)<|af (c3 _ _)<|dq (df _ _ _)<|af (iM _ _)<|af (cu _ _) rfl
theorem Yj{D:Dc}(hc:c<=31)(hv:v<2 ^ c)(h:D.Ok ((ja v c).map .half++todo)):
 LV 3 1089 1 [.ref 0,.int c] (Yh D) (bN (.ret<|.int v)<|Yh<|D.add<|(ja v c).map .half):=by
 erw [XG.enter rfl]
 refine nr _ c _ (λ(E:Dc) i=>E.Ok ((ja v<|c-i).map .half++todo)/\E.add ((ja v<|c-i).map .half)=D.add ((ja v c).map .half)) (λs i=>[ae<|.ref 0,ae<|.int c,ae<|.int (v/2 ^ (c-i):Nat),aq,aq]) (λs i=>Yh s) D
  (l5.up<|az hc<|by decide) ⟨h,rfl⟩ ⟨rfl,rfl,by refine af (lI _)<|af (dS hv) ?_;rfl,trivial⟩ (λi E hi hs tu=>?_) λE hs=>?_
 . refine aT hs λhE rA=>?_;clear hs
   have en:=Yi (v:=v) hi;have HK:v/2 ^ (c-i)<2 ^ 60:=a7 (gE _ _) (aJ hv<|cI (by decide)<|az hc<|by decide);generalize v/2 ^ (c-i)=val at en HK |-;rw[mI hi] at hE rA;have eh:=E.T.half hE.t hE.evs;have hE2:=(Dc.Ok.step (l:=[.half<|v.testBit<|c-1-i]) hE);have ok1:=E.T.EM hE.t hE.evs;have ok2:=E.T.EM hE2.t hE2.evs;have es:(E.x.span:Int).fdiv (2 ^ (1:Int).toNat)=((E.x.span/2:Nat):Int):=nO _ 1
   have fin:∀{w:VC} {b:Bool} {vi:Int} {x:RS},v.testBit (c-1-i)=b->RS.fill E.T.d x=(E.add [.half<|v.testBit<|c-1-i]).x->vi=((2*val+iN b:Nat):Int)->w.tJ=_->Wk w.tf [ae<|.ref 0,ae<|.int c,ae<|.int vi,aq,aq]->w.th=Dq E.T.d (RS.fill E.T.d x)->w.H:=λ{w b vi x} hb e1 ev hJ hf hh=>by
    subst hb ev;rw[e1] at hh;exact tu w hJ (E.add [.half<|v.testBit<|c-1-i]) (by dsimp only;rwa[af (jh i c),⟨hE2,Dc.eC.trans rA⟩]) (by dsimp only;rwa[dq en,hf]) hh
   refine n1 _ rfl<|nf _ (λa=>?_) λa=>?_
   . have q':E.x.span/2<=E.x.code:=bY.mp (es▸(show(E.x.span:Int).fdiv (2 ^ (1:Int).toNat)<=E.x.code from a))
     have er:=(show RS.half E.T.d E.x=(ah,RS.fill E.T.d ⟨E.x.place,E.x.span/2,E.x.code-E.x.span/2⟩) from if_pos q').symm.trans eh;refine aT (cW er) λeb ex=>?_;have e2:(E.x.code:Int)-(E.x.span:Int).fdiv (2 ^ (1:Int).toNat)=((E.x.code-E.x.span/2:Nat):Int):=(congrArg ((E.x.code:Int)- ·) es).trans (cJ q').symm;have hno:E.x.code-E.x.span/2<E.x.span/2:=NV (d:=E.T.d) (x:=⟨E.x.place,E.x.span/2,E.x.code-E.x.span/2⟩) (by rwa[af ex,ok2.2.2.2]);refine na _ rfl<|nb _ ?_<|n1 _ (ny HK) ?_
     . exact λ(h:(E.x.span:Int).fdiv (2 ^ (1:Int).toNat)<=(E.x.code:Int)-(E.x.span:Int).fdiv (2 ^ (1:Int).toNat))=>Nat.not_le.mpr hno (bY.mp<|by rw[e2,es] at h;exact h)
     rwa[nc _ [0] (Ff (x:=⟨E.x.place,E.x.span/2,E.x.code-E.x.span/2⟩) es e2 (yE<|by rwa[af ex,ok2.1]) hE.len<|a7 (dk _ _)<|aZ ok1.2.2.2 ok1.2.2.1),fin eb.symm ex (sg val ah) rfl ⟨rfl,rfl,rfl,trivial⟩ rfl]
   . have q':¬E.x.span/2<=E.x.code:=λq=>a (show(E.x.span:Int).fdiv (2 ^ (1:Int).toNat)<=E.x.code from es▸bY.mpr q)
     have er:=(show RS.half E.T.d E.x=(ao,RS.fill E.T.d ⟨E.x.place,E.x.span/2,E.x.code⟩) from if_neg q').symm.trans eh;rwa[aT (cW er) λeb ex=>?_,nb _ (show ¬(0:Int)=1 by decide)<|n1 _ (ny HK) ?_,nc _ [0] (Ff (x:=⟨E.x.place,E.x.span/2,E.x.code⟩) es rfl (yE<|by rwa[af ex,ok2.1]) hE.len<|aZ ok1.2.2.2 ok1.2.2.1),fin eb.symm ex (sg val ao) rfl ⟨rfl,rfl,rfl,trivial⟩ rfl]
 . refine aT hs λhE rA=>?_;clear hs
   rw[cS,fF,ku] at*;exact ne _ ⟨rfl,congrArg Yh<|Dc.add_nil.symm.trans rA⟩
structure DkD(f k:Nat)(qh:List AV)(r:Nat)(is:IS):Prop where
 ex:∃d,qP f=some d/\(∀args:List AV,args.length=k->Binds f args qh d)/\d.ns.length=k+qh.length+r/\uh d.ns d.gs d.body=is
theorem DkD.enter(h:DkD f k qh r is)(e:args.length=k)(hw:(kX n is ((args++qh).map ae++aS r aq) hp post).H):LV (n+1) f m args hp post:=by
 refine yW h.ex λd h1 h2 h3 h4=>?_;have e2:(args++qh).length=k+qh.length:=af aj<|af e rfl;exact LV.JX h1 (h2 args e) (by rwa[dq aj<|af e2<|af h3 ?_,aU _ _]) h4 (by rwa[af (zv e2 h3),hw])
theorem Bt{f:Nat}(hm:∀ω,Vs ω qh more)(h:∀{C:Cx} {K:qo} {s:aE} {l:List bp},Gl C K->KF K->Sat C l s->Sq k λvs=>∀name kV doc pm an ct,U1 s (z3 name d.qual d.params d.body d.scope d.dV kV doc pm an (.ref<|f-1) ct) ⟨vs,[]⟩<|(d.ns.take<|k+qh.length).zip<|vs++more)(args:List AV)(e:args.length=k):Binds f args qh d:=λG F H hv=>(bV more (hm _)<|by rwa[af e,GX k (h G F H) _<|hv.length.symm.trans e])
theorem qd7:DkD 388 1 [.raw<|.ref 380] 0 qb5:=⟨r8 23,by kernel_rfl,Bt (more:=[.ref 380]) (λω=>.cons (tD.mpr rfl) .nil) λG F H a name kV doc pm an ct=>fI (T:=381) (by kernel_rfl) (G.X H _ _<|F.rG (381,[.ref 380])<|.tail _<|.tail _<|.head _) rfl rfl rfl,by kernel_rfl,by kernel_rfl⟩
theorem Yk:DkD 1040 2 [.int 0,.none] 1 WY:=⟨r8 87,by kernel_rfl,Bt (more:=[.int 0 1639,.none]) (λω=>.cons (dz.mpr ⟨_,rfl⟩)<|.cons (fK.mpr rfl) .nil) λG F H a b name kV doc pm an ct=>fI (T:=1033) (by kernel_rfl) (G.X H _ _<|F.rG (1033,[.int 0 1639,.none])<|.tail _<|.tail _<|.tail _<|.tail _<|.tail _<|.head _) rfl rfl rfl,by kernel_rfl,by kernel_rfl⟩
theorem qd8:LV 1 388 1 [.ref 0] [.inst 426 [aq]] (bN (.ret .none) [.inst 426 [ae<|.ref 1],.lst [.int 1,.int 1,.int 1,.int 1]]):=by
 rwa[qd7.enter rfl,n1 _ (by show(4:Nat)<=1000000;exact aa rfl)<|ne _ bN.i]
theorem fM.head{T:fM}(h:T.Ok):∃y,T.rs []=⟨5,4294967295,y⟩/\y<4294967295/\∀j,j<5->(T.d.getD j 0).toNat=y/256 ^ (4-j)%256:=by
 refine aT (T.at h (done:=[]) (todo:=T.evs) rfl) λa c=>?_;have e:T.es []=ES.start T.nN:=rfl;rw[e] at a c;have hc:=(nv c).2
 have hc:T.V/256 ^ T.K<4294967295:=by
  have e2:T.K-(ES.start T.nN).k=T.K:=lI _;rw[e2] at hc;exact Nat.lt_of_lt_of_eq hc<|pJ _
 rwa[(oK (T.V/256 ^ T.K) rfl hc λj hj=>?_),af (h.aP j<|aJ hj<|dG _ _)<|af (df _ _ _)<|dq (kx _ _ _)<|af (Nat.add_sub_assoc (Nat.le_of_lt_succ hj) _) rfl]
theorem PG(h:(Dc.mk T []).Ok T.evs):LV 2 1040 1 [.ref 0,.bytes T.d] [.inst 1106<|aS 6 aq] (bN (.ret .none)<|Yh ⟨T,[]⟩):=by
 refine dh (T.head h.t) λy hy ju hd=>?_;have hl:T.d.length<=1000000:=h.len;have fX:5<=T.d.length:=az (dG _ _) h.t.len;have e0:(T.d.getD 0 0).toNat=0:=af (hd 0<|by exact eJ _) (af (dS<|aZ ju<|by exact aA _) rfl);erw [Yk.enter rfl<|n1 _ hl<|na _ (xi 0)<|na _ (aD _)<|n1 _ hl<|na _ (xi _) ?_,pn];intro V;erw [nc _ [0] (Km (p:=0) (aJ (aN _) fX) hl),af e0<|na _ rfl ?_]
 refine nr _ 4 _ (λ(_:Unit) i=>True) (λs i=>[ae<|.ref 0,ae<|.bytes T.d,ae<|.int 0,ae .none,aq]) (λs i=>SH T.d (1+i:Nat) 4294967295 (y/256 ^ (4-i):Nat)) () (l5.up (n:=4)<|aa rfl) trivial ⟨rfl,rfl,rfl,rfl,trivial⟩ (λi E hi hs tu=>?_) (λE hs=>?_) (by erw [af (dS<|aZ ju<|aA _)];rfl)
 . refine pn ?_;intro V;have Yl:=hd (1+i) (eO 1 i▸jX hi)
   rw[show 4-(1+i)=4-(i+1) by(first |exact(eO _ _) |exact congrArg _ (eO _ _) |exact af (eO _ _) rfl)] at Yl
   have e1:y/256 ^ (4-i)*256+(T.d.getD (1+i) 0).toNat=y/256 ^ (4-(i+1)):=by
    exact af Yl<|af (mI hi)<|dq (jh i 4)<|af (c3 _ _)<|dq (df _ _ _)<|af (eQ _ _)<|af (cu _ _) rfl
   erw [n1 _ (ny<|a7 (gE _ _)<|aZ ju<|aa rfl)<|nc _ [0] (Km (p:=1+i) (aJ (eO 1 i▸jX hi) fX) hl) ?_,pn];intro V;erw [tu _ rfl () trivial ⟨rfl,rfl,rfl,rfl,trivial⟩];show SH T.d (1+i+1:Nat) 4294967295 (dM (((y/256 ^ (4-i):Nat):Int)*2 ^ (8:Int).toNat) ((T.d.getD (1+i) 0).toNat:Nat))=_;refine af (PF _ _<|fW _)<|af e1 ?_;rfl
 . refine af (cS _) (af (fF _)<|af (ku _) ?_)
   refine nb _ (λh=>uR ju<|gm h)<|ne _<|bN.h ?_;show _=Dq T.d (T.rs []);erw [af hy];rfl
noncomputable def Ym(n:Int)(w:List UInt8):List AO:=[.inst 1000 [ae<|.int 64,ae<|.int n,ae<|.ref 1,ae<|.int n],.ba w]
noncomputable def pz(w:List UInt8):List AO:=Ym w.length w
theorem Kn(w:List UInt8)(o:UInt8):((w.length:Nat):Int)+1=((w++[o]).length:Nat):=by rw[aj];rfl
theorem qd9{n:Int}:LV 1 940 1 [.ref 0] [.inst 1000 [ae<|.int 64,ae<|.int 0,aq,aq]] (bN (.ret .none)<|pz []):=qdU.enter rfl<|ne _ bN.i
theorem Yn:LV 2 933 1 [.ref 0,.int 64] [.inst 1000<|aS 4 aq] (bN (.ret .none)<|pz []):=by
 rwa[qdT.enter rfl (nb _ (show ¬(64:Int)<1 by decide) ?_),nc _ [0] (qd9 (n:=0))<|ne _ bN.i]
theorem NW(hz:w.length<64):LV 1 947 2 [.ref 0] (pz w) (bN (.ret<|.int w.length)<|pz w):=
 qdV.enter rfl (n1 _ (az (bM hz)<|aa rfl)<|ne _ bN.i)
theorem Yo{x:Int}(ex:x=(o:Nat))(hz:w.length<63)(ho:o<256):LV 1 955 2 [.ref 0,.int x] (pz w) (bN (.ret .none)<|pz<|w++[bz o]):=by
 rwa[!ex,qdW.enter rfl<|n1 _ (az (bM hz)<|aa rfl)<|na _ (aF.mpr<|mQ hz)<|n1 _ ⟨⟨aD _,aF.mpr ho⟩,aZ hz<|aa rfl⟩<|nb _ (λh=>uR (jX hz)<|gm h)<|ne _<|bN.h ?_,congrArg (Ym ·<|w++[bz o])<|Kn w _]
theorem Yp{w:List UInt8}(hz:w.length<64)(h1:1<=d)(h2:d<=w.length):LV 3 969 2 [.ref 0,.int d] (pz w) (bN (.ret .none)<|pz w):=by
 rwa[qdX.enter rfl<|nb _ (bO.mpr<|bY.mpr h1) ?_,nc _ [0,1] (NW hz)<|nb _ (bO.mpr<|bY.mpr h2)<|ne _ bN.i]
noncomputable def pN(w:List UInt8)(d:Nat):UInt8:=w.getD (w.length-d) 0
theorem nS{o:Option α}{x:α}{k:α->VC}(h:o=ae x)(hk:(k x).H):(aX o k).H:=by rwa[!h,hk]
theorem SJ{w:List UInt8}(hz:w.length<64)(h1:1<=d)(h2:d<=w.length):LV 4 976 2 [.ref 0,.int d] (pz w) (bN (.ret<|.int (pN w d).toNat)<|pz w):=by
 have e1:(w.length:Int)-d=((w.length-d:Nat):Int):=(cJ h2).symm;have e0:(0:Int)<=(w.length:Int)-d:=by rw[e1];exact aD _
 have lt:w.length-d<w.length:=Nat.sub_lt (aJ h1 h2) h1
 have eg:w[((if((w.length:Int)-d<0) then(w.length:Int)-d+w.length else(w.length:Int)-d)).toNat]? =ae (pN w d):=by
  rw[if_neg<|bO.mpr e0,e1];show w[w.length-d]? =_;unfold pN;rw[aW,aI lt];rfl
 rwa[qdY.enter rfl<|nc _ [0,1] (Yp hz h1 h2) ?_,na _ e0 (n1 _ ⟨⟨lG (Int.neg_nonpos_of_nonneg<|aD _) e0,by rw[e1];exact aF.mpr lt⟩,az (bM hz)<|aa rfl⟩ ?_),nS (x:=pN w d) eg<|ne _ bN.i]
def jG(w:List UInt8)(d:Nat):Nat->List UInt8
 |0=>[]
 |n+1=>pN w d::jG (w++[pN w d]) d n
theorem pX:∀{n:Nat} {w:List UInt8},(jG w d n).length=n
 |0,_=>rfl
 |n+1,w=>congrArg (· +1) pX
theorem Yq{w:List UInt8}(hz:w.length+n<63)(h1:1<=d)(h2:d<=w.length):LV 5 983 2 [.ref 0,.int d,.int n] (pz w) (bN (.ret<|.bytes<|jG w d n)<|pz<|w++jG w d n):=by
 have hn:n<=63:=bM<|a7 (dG _ _) hz;erw [LV.gc<|qdZ.enter rfl ?_,pn];intro V;erw [nc _ [0,1] (Yp (a7 (aU _ _)<|mQ hz) h1 h2)]
 refine nr _ n _ (λ(s:List UInt8×List UInt8) i=>(s.1.length=w.length+i/\s.2.length=i)/\s.2++jG s.1 d (n-i)=jG w d n/\s.1++jG s.1 d (n-i)=w++jG w d n)
  (λs i=>[ae<|.ref 0,ae<|.int d,ae<|.int n,ae<|.ref 2,aq,aq]) (λs i=>pz s.1++[.ba s.2]) (w,[]) (l5.up<|az hn<|aa rfl) ⟨⟨rfl,rfl⟩,rfl,rfl⟩ ⟨rfl,rfl,rfl,rfl,trivial⟩ (λi s hi hs tu=>?_) λs hs=>?_
 . refine pn ?_;intro V;obtain⟨v,told⟩:=s
   erw [nn λzn=>?_,lE hs λaH e1 e2=>?_,-hs,aT aH λhl ht=>?_,zn,-zn,-aH];rw[mI hi, <-jh i n] at e1 e2;have hv:v.length<63:=hl▸aZ (dm hi _) hz;erw [nc _ [0,1] (SJ (w:=v) (mQ hv) h1<|hl▸az h2 (aU _ _))<|nc _ [0,1] (Yo (w:=v) (o:=(pN v d).toNat) rfl hv<|fW _)<|n1 _ ⟨⟨aD _,aF.mpr<|fW _⟩,ht▸aJ hi (az hn<|aa rfl)⟩ ?_,pn];intro V;refine tu _ rfl (v++[pN v d],told++[pN v d]) ⟨⟨by rw[aj,hl];rfl,by rw[aj,ht];rfl⟩,?_,?_⟩ ⟨rfl,rfl,rfl,rfl,trivial⟩ ?_
   . rw[ax];exact e1
   . rw[ax];exact e2
   . exact congrArg (λo=>pz (v++[o])++[AO.ba<|told++[o]]) HV
 . refine pn ?_;intro V;obtain⟨v,told⟩:=s
   erw [nn λzn=>?_,lE hs λaH e1 e2=>?_,-hs,aT aH λhl ht=>?_,zn,-zn,-aH];rw[cS] at e1 e2;exact n1 _ (az (jt ht)<|az hn (aa rfl:63<=1000000))<|ne _ ⟨congrArg (λx=>AR.ret<|.bytes x)<|(bD _).symm.trans e1,[.ba told],congrArg (λx=>pz x++[AO.ba told])<|(bD _).symm.trans e2⟩
theorem Dt(hz:w.length<64):LV 3 990 2 [.ref 0] (pz w) (bN (.ret<|.bytes w)<|pz w):=by
 exact qd0.enter rfl<|nc _ [0,1] (NW hz)<|na _ (aF.mpr hz)<|n1 _ (az (bM hz)<|aa rfl)<|ne _ bN.i
noncomputable def UO(lc lp pb:Nat):AO:=.inst 228 [ae<|.int lc,ae<|.int lp,ae<|.int pb]
theorem qea{lc:Nat}{lp:Nat}{pb:Nat}(h1:lc<=8)(h2:lp<=4)(h3:pb<=4):LV 1 204 1 [.ref 0,.int lc,.int lp,.int pb] [.inst 228 [aq,aq,aq]] (bN (.ret .none) [UO lc lp pb]):=
 qc4.enter rfl (na _ (aD _)<|na _ (bY.mpr h1)<|na _ (aD _)<|na _ (bY.mpr h2)<|na _ (aD _)<|na _ (bY.mpr h3)<|ne _ bN.i)
theorem qeb(h:lc+lp<=12):LV 1 218 1 [.ref 0] [UO lc lp pb] (bN (.ret<|.int (768*2 ^ (lc+lp):Nat)) [UO lc lp pb]):=
 qc5.enter rfl (n1 _ (pq (k:=lc+lp) (a:=768) (az h<|aa rfl)<|aa rfl)<|ne _<|bN.ri<|by rw[qe,lj];rfl)
theorem SM{p:Nat}(h:pb<=4):LV 1 225 1 [.ref 0,.int p] [UO lc lp pb] (bN (.ret<|.int (p%2 ^ pb:Nat)) [UO lc lp pb]):=
 qc6.enter rfl (n1 _ (pq (a:=1) (az h<|aa rfl)<|aa rfl)<|ne _<|bN.ri<|sf p pb)
theorem NX{x:Nat}(hn:n<=1000000):eI (.lst<|aS n<|.int x) (.tab n λz=>x):=λω a g h=>by
 rwa[aK h λxs hv hg=>?_,-h,.inl ⟨xs,⟨by rw[<-hv.length,jE],hn,λi hi=>?_⟩,hg⟩,nn λzn=>?_,aK (hv.at<|show(aS n<|AV.int x)[i]? =ae (.int x) by rw[List.getElem?_replicate,if_pos hi]) λw e hw=>?_,c4 (dz.mp hw) λt aH=>?_,zn,-zn,!aH,⟨t,e⟩]
theorem G5{n:Nat}(hn:n<=1000000):qi 1 (l6 n λz=>aq) [.tab n λz=>1024]:=λC ω R s h1 h2 H=>by
 obtain⟨ρ,τ⟩:=ω
 match ρ,h2 with
 |[a,d],_=>
  refine⟨⟨[a],τ⟩,⟨h1,aA 1,λi hi=>?_,λz h=>h⟩,rfl,?_⟩
  . cases i with
    |zero=>rfl
    |succ i=>exact(iS _<|eR hi).elim
  exact(tK (bb:=⟨[a,d],τ⟩) (m:=a) (d:=d) ⟨aA 2,aA 2,λi z=>rfl,λz h=>nomatch h⟩ rfl H).imp λg hg=>.inr ⟨d,_,⟨hn,λi z=>.inr ⟨rfl,rfl⟩⟩,hg⟩
theorem Fg:∀{n:Nat},AV.mps g (aS n<|.int x)=aS n (.int x)
 |0=>rfl
 |n+1=>congrArg (AV.int x:: ·) Fg
theorem sj{n:Nat}(hn:n<=1000000):LV 3 189 0 [.int n] [] (bN (.ret<|.ref 0) [.tab n λz=>1024]):=by
 by_cases h:n<=64
 . refine LV.weak (post':=bN (.ret<|.ref 0) [.lst<|aS n<|.int 1024]) (LV.sel (post':=bN (.ret<|.ref 1) [.lst [.int 1024],.lst<|aS n<|.int 1024]) (Xn.enter rfl<|na _ (bY.mpr h)<|n1 _ ⟨aD _,bY.mpr hn⟩<|ne _ bN.i) ?_) ?_
   . rintro r h ⟨rfl,rfl⟩
     exact⟨[1],.ret<|.ref 0,[.lst<|aS n<|.int 1024],⟨fm rfl,λk hk=>(iS _ hk).elim,.cons (congrArg (λl=>ae<|AO.lst l) Fg.symm) .nil⟩,rfl,rfl,rfl⟩
   . rintro r h ⟨rfl,rfl⟩
     exact⟨1,_,cM _,rfl,qi.obj<|.cons (NX hn) .nil,aA _,rfl,rfl⟩
 . refine LV.weak (post':=bN (.ret<|.ref 0)<|l6 n λz=>aq) (Xn.enter rfl<|nb _ (λq=>h<|bY.mp q) ?_) ?_
   . refine pn ?_;intro V;refine nc _ [0] qd3 ?_
     exact ne _ bN.i
   . rintro r h ⟨rfl,rfl⟩
     exact⟨1,_,cM _,rfl,G5 hn,OD<|cM _,rfl,rfl⟩
noncomputable def c0(_:Nat):Nat:=1024
noncomputable def zD(b:Nat)(pos:Int):AO:=.inst 312 [ae<|.int pos,ae<|.ref<|b+0,ae<|.ref<|b+1,ae<|.ref<|b+2,ae<|.ref<|b+3]
theorem SN{pos:Nat}(hp:pos<=1000):LV 4 309 5 [.ref 0] [zD 1 pos,.gone,.gone,.gone,.gone] (bN (.ret .none) [zD 5 pos,.gone,.gone,.gone,.gone,.tab 2 c0,.tab (8*pos) c0,.tab (8*pos) c0,.tab 256 c0]):=by
 have h8:8*pos<=1000000:=az (dj 8 hp)<|aa rfl;have hm:OA 8 (pos:Nat):=mulR<|a7 hp<|aa rfl;exact qde.one rfl λpost hz=>kc _ [] (sj (n:=2)<|aa rfl)<|k1 _ hm<|kc _ [] (sj (n:=8*pos) h8)<|k1 _ hm<|kc _ [] (sj (n:=8*pos) h8)<|kc _ [] (sj (n:=256)<|aa rfl)<|kz _ hz
theorem Yr{pi:Int}(ep:pi=(pos:Nat))(hp:pos<=1000):LV 5 302 1 [.ref 0,.int pi] [.inst 312 [aq,aq,aq,aq,aq]] (bN (.ret .none) [zD 1 pos,.tab 2 c0,.tab (8*pos) c0,.tab (8*pos) c0,.tab 256 c0]):=by
 erw [!ep,LV.sel (post':=bN (.ret .none) [zD 5 pos,.gone,.gone,.gone,.gone,.tab 2 c0,.tab (8*pos) c0,.tab (8*pos) c0,.tab 256 c0]) (qdd.one rfl λpost hz=>kd _ [1,2,3,4]<|kc _ [0,1,2,3,4] (SN hp)<|kz _ hz)];rintro r h ⟨rfl,rfl⟩;exact⟨[0,5,6,7,8],.ret .none,[zD 1 pos,.tab 2 c0,.tab (8*pos) c0,.tab (8*pos) c0,.tab 256 c0],Sel.of rfl rfl,rfl,rfl,rfl⟩
structure Pr where
 lc:Nat
 lp:Nat
 pb:Nat
structure Pr.Ok(P:Pr):Prop where
 l:P.lc+P.lp<=3
 p:P.pb<=4
def Pr.o(P:Pr):AO:=UO P.lc P.lp P.pb
noncomputable def Pr.ps(P:Pr):Nat:=2 ^ P.pb
noncomputable def Pr.lits(P:Pr):Nat:=768*2 ^ (P.lc+P.lp)
noncomputable def Fh(p t l r:Nat):AO:=.inst 368 [ae<|.ref p,ae<|.ref<|t+0,ae<|.ref<|t+1,ae<|.ref<|t+2,ae<|.ref<|t+3,ae<|.ref<|t+4,ae<|.ref<|t+5,ae<|.ref<|t+6,ae<|.ref<|t+7,ae<|.ref<|t+8,ae<|.ref<|t+9,ae<|.ref l,ae<|.ref r]
def nN:MS:=λz=>c0
def OL(P:Pr)(ms:MS):List AO:=[.tab 192<|ms .isMatch,.tab 12<|ms .jg,.tab 12 c0,.tab 12 c0,.tab 12 c0,.tab 192 c0,.tab 256<|ms .slots,.tab 115<|ms .special,.tab 16<|ms .align,.tab P.lits<|ms .literals]
def Bu(P:Pr)(ms:MS):List AO:=[.tab 2<|ms .choice,.tab (8*P.ps)<|ms .low,.tab (8*P.ps) c0,.tab 256 c0]
def g8(b:Nat)(P:Pr)(ms:MS):List AO:=Fh (b+1) (b+2) (b+12) (b+17)::P.o::OL P ms++(zD (b+13) P.ps::Bu P ms++(zD (b+18) P.ps::Bu P nN))
theorem Pr.Ok.ps{P:Pr}(h:P.Ok):P.ps<=16:=cI (by decide) h.p
theorem Pr.Ok.lits{P:Pr}(h:P.Ok):P.lits<=6144:=dj 768 (cI (by decide) h.l)
noncomputable def gs4:List AO:=[.gone,.gone,.gone,.gone]
noncomputable def qec:List AO:=[.gone,.gone,.gone,.gone,.gone,.gone,.gone,.gone,.gone,.gone]
def Ko(t l r:Nat)(P:Pr):List AO:=Fh 1 t 12 17::P.o::qec++(zD l P.ps::gs4++(zD r P.ps::gs4))
theorem Ys(h:P.Ok):LV 5 337 22 [.ref 0] (Ko 2 13 18 P) (bN (.ret .none)<|Ko 22 32 36 P++OL P nN++Bu P nN++Bu P nN):=by
 exact qdg.one rfl λpost hz=>(k1 _ (mulR (a:=12) (b:=16)<|aa rfl)<|kc _ [] (sj (n:=192)<|aa rfl)<|kc _ [] (sj (n:=12)<|aa rfl)<|kc _ [] (sj (n:=12)<|aa rfl)<|kc _ [] (sj (n:=12)<|aa rfl)<|kc _ [] (sj (n:=12)<|aa rfl)<|k1 _ (mulR (a:=12) (b:=16)<|aa rfl)<|kc _ [] (sj (n:=192)<|aa rfl)<|k1 _ (mulR (a:=4) (b:=64)<|aa rfl)<|kc _ [] (sj (n:=256)<|aa rfl)<|kc _ [] (sj (n:=115)<|aa rfl)<|k1 _ (pq (k:=4) (a:=1) (aa rfl)<|aa rfl)<|kc _ [] (sj (n:=16)<|aa rfl)<|kc _ [1] (qeb (lc:=P.lc) (lp:=P.lp) (pb:=P.pb)<|az h.l<|aa rfl)<|kc _ [] (sj (n:=P.lits)<|az h.lits<|aa rfl)<|kc _ [12,13,14,15,16] (SN<|az h.ps<|aa rfl)<|kc _ [17,18,19,20,21] (SN<|az h.ps<|aa rfl)<|kz _ hz)
theorem qee(h:P.Ok):LV 7 330 2 [.ref 0,.ref 1] [.inst 368<|aS 13 aq,P.o] (bN (.ret .none)<|g8 0 P nN):=by
 refine LV.sel (post':=bN (.ret .none)<|Ko 22 32 36 P++OL P nN++Bu P nN++Bu P nN) (qdf.one rfl λpost hz=>?_) ?_
 . refine k1 _ (pq (k:=P.pb) (a:=1) (az h.p<|aa rfl)<|aa rfl) ?_
   rwa[kc _ [12] (Yr (pos:=P.ps) (Kg P.pb)<|az h.ps<|aa rfl)<|k1 _ (pq (k:=P.pb) (a:=1) (az h.p<|aa rfl)<|aa rfl)<|kc _ [17] (Yr (pos:=P.ps) (Kg P.pb)<|az h.ps<|aa rfl) ?_,kd _ [2,3,4,5,6,7,8,9,10,11,13,14,15,16,18,19,20,21]<|kc _ [0,1,2,3,4,5,6,7,8,9,10,11,12,13,14,15,16,17,18,19,20,21] (Ys h) ?_,kz _ hz]
 . rintro r h ⟨rfl,rfl⟩
   exact⟨[0,1,22,23,24,25,26,27,28,29,30,31,12,32,33,34,35,17,36,37,38,39],.ret .none,g8 0 P nN,Sel.of rfl (by kernel_rfl),rfl,rfl,rfl⟩
section
variable{P:Pr}
theorem SO{st:Nat}{pl:Nat}(h:P.Ok):LV 2 344 22 [.ref 0,.int st,.int pl] (g8 0 P ms) (bN (.ret<|.int (st*16+pl%P.ps:Nat))<|g8 0 P ms):=by
 rwa[qdh.one rfl λpost hz=>?_,V,k1 _ (mulR (a:=st) (b:=16)<|aa rfl),kc _ [1] (SM (lc:=P.lc) (lp:=P.lp) (pb:=P.pb) (p:=pl) h.p)<|kz _ hz]
theorem Yt{n:Nat}(hn:2<=n):LV 2 351 22 [.ref 0,.int n] (g8 0 P ms) (bN (.ret<|.int (64*min (n-2) 3:Nat))<|g8 0 P ms):=by
 rwa[qdi.one rfl λpost hz=>?_,V,kc _ [] (qd5 hn),k1 _ (mulR (a:=64) (b:=min (n-2) 3)<|a7 (oi _ _)<|aa rfl)<|kz _ hz]
theorem Yu(hs:slot<64)(hb:slot<=sP slot):LV 2 358 22 [.ref 0,.int slot] (g8 0 P ms) (bN (.ret<|.int (sP slot-slot:Nat))<|g8 0 P ms):=by
 rwa[qdj.one rfl λpost hz=>?_,V,kc _ [] (Sz hs),kz _<|(cJ hb)▸hz]
noncomputable def mj(P:Pr)(pl b:Nat):Nat:=pl%2 ^ P.lp*2 ^ P.lc+b/2 ^ (8-P.lc)
theorem NY(h:P.Ok)(hb:b<256):mj P pl b<2 ^ 60:=by
 have h1:pl%2 ^ P.lp*2 ^ P.lc<2 ^ 3:=by
  erw [aJ (Nat.mul_lt_mul_of_pos_right (bA _<|g9<|aN _)<|g9<|aN _)];rw[<-kx];exact cI (aN _)<|eO P.lc P.lp▸h.l
 exact aZ (Nat.add_lt_add h1<|a7 (gE _ _) hb)<|aa rfl
theorem Yv{pl:Nat}{b:Nat}(h:P.Ok)(hb:b<256):LV 2 365 22 [.ref 0,.int pl,.int b] (g8 0 P ms) (bN (.ret<|.int (768*mj P pl b:Nat))<|g8 0 P ms):=by
 have hc:P.lc<=8:=az (aU _ _)<|az h.l<|aa rfl;have hp:P.lp<=3:=az (dG _ _) h.l;have e8:(8:Int)-(P.lc:Nat)=((8-P.lc:Nat):Int):=(cJ hc).symm
 have ex:aO (pl:Int) (1*2 ^ ((P.lp:Nat):Int).toNat-1)*2 ^ ((P.lc:Nat):Int).toNat+(b:Int).fdiv (2 ^ ((8:Int)-(P.lc:Nat)).toNat)=((mj P pl b:Nat):Int):=by
  rw[sf,e8,bS,bS,nO];unfold mj;rw[Int.natCast_add,qe,lj];rfl
 rwa[qdk.one rfl λpost hz=>(k1 _ (pq (k:=P.lp) (a:=1) (az hp<|aa rfl)<|aa rfl) ?_),k1 _ (show rR (aO (pl:Int)<|1*2 ^ ((P.lp:Nat):Int).toNat-1) (P.lc:Nat) by rw[sf];exact pq (az hc<|aa rfl)<|aJ (bA _<|g9<|aN _)<|cI (aN _)<|az hp<|aa rfl),k1 _ (show decide (0<=(8:Int)-(P.lc:Nat))=ah by rw[e8];exact decide_eq_true<|aD _),k1 _ (show OA 768 (aO (pl:Int) (1*2 ^ ((P.lp:Nat):Int).toNat-1)*2 ^ ((P.lc:Nat):Int).toNat+(b:Int).fdiv (2 ^ ((8:Int)-(P.lc:Nat)).toNat)) by rw[ex];exact mulR<|NY h hb),kz _<|show post (.ret<|.int<|768*(aO (pl:Int) (1*2 ^ ((P.lp:Nat):Int).toNat-1)*2 ^ ((P.lc:Nat):Int).toNat+(b:Int).fdiv (2 ^ ((8:Int)-(P.lc:Nat)).toNat))) (g8 0 P ms) by rw[ex];exact hz]
end
noncomputable def pA(r:Nat):AO:=.inst 426 [ae<|.ref r]
noncomputable def pD(a b c d:Nat):AO:=.lst [.int a,.int b,.int c,.int d]
theorem qef:LV 1 402 2 [.ref 0] [pA 1,pD a b c d] (bN (.ret<|.int a) [pA 1,pD a b c d]):=by
 exact qdm.one rfl λpost hz=>k1 _ (P:=(decide ((0:Int)<=0)&&decide ((0:Int)<2 ^ 63))=ah) rfl<|kz _ hz
theorem qeg:LV 1 395 2 [.ref 0] [pA 1,.gone] (bN (.ret .none) [pA 2,.gone,pD 1 1 1 1]):=by
 exact qdl.one rfl λpost hz=>kz _ hz
theorem qeh{x:Nat}:LV 1 416 2 [.ref 0,.int x] [pA 1,pD a b c d] (bN (.ret .none) [pA 2,.gone,pD x a b c]):=by
 rwa[LV.pick (h1:=[pA 4,pD a b c d,.lst [.int x],.lst [.int a,.int b,.int c],pD x a b c]) (r:=.ret .none) [1] [0,1,4]<|qdn.one rfl λpost hz=>?_,k1 _ (P:=(0:Int)<=3/\(4:Nat)<=1000000) (by decide)<|k1 _ (P:=(4:Nat)<=1000000) (by decide)<|kz _ hz]
noncomputable def TB.ix:TB->Nat
 |.isMatch=>2 |.jg=>3 |.slots=>8 |.special=>9 |.align=>10 |.literals=>11 |.choice=>13 |.low=>14
noncomputable def TB.sz(P:Pr):TB->Nat
 |.isMatch=>192 |.jg=>12 |.slots=>256 |.special=>115 |.align=>16 |.literals=>P.lits |.choice=>2 |.low=>8*P.ps
noncomputable def MS.put(ms:MS)(t:TB)(f:Nat->Nat):MS:=λt'=>if t'=t then f else ms t'
theorem MS.SP{ms:MS}(h:∀t',t'≠t->UP t'=ms t'):UP=ms.put t (UP t):=by
 funext t'
 unfold MS.put;by_cases e:t'=t
 . exact af (if_pos e)<|af e rfl
 . exact af (if_neg e)<|af (h t' e) rfl
theorem Fi(h:∀t',t'≠t->UP t'=ms t'):g8 b P UP=(g8 b P ms).set t.ix (.tab (t.sz P)<|UP t):=by
 erw [af (MS.SP h)];generalize UP t=f;cases t<;>rfl
def oz(D:Dc)(P:Pr):List AO:=Dq D.T.d D.x++g8 1 P D.ms
def yF(σ:St)(P:Pr):List AO:=zC σ++g8 2 P σ.e.ms
theorem LV.rd{n f}{args}{r}{D D'}(P:Pr){t}(h:LV n f 2 (.ref 0:: .ref 1::args) (Dq D.T.d D.x++[.tab (t.sz P)<|D.ms t]) (bN r<|Dq D'.T.d D'.x++[.tab (t.sz P)<|D'.ms t]))
 (hm:∀t',t'≠t->D'.ms t'=D.ms t') (ha:∀g,AV.mps g args=args) (hr:∀g,r.mp g=r):LV n f 23 (.ref 0:: .ref (t.ix+1)::args) (oz D P) (bN r<|oz D' P):=by
 have hs:F2 (λj o=>(oz D P)[j]? =ae (AO.mp (i4 [0,t.ix+1] (oz D P).length) o)) [0,t.ix+1] (Dq D.T.d D.x++[.tab (t.sz P)<|D.ms t]):=.cons rfl (.cons (by cases t<;>rfl) .nil);have key:=LV.loc (hp:=oz D P) [0,t.ix+1] h (by cases t<;>exact fm rfl) hs
 have e1:AV.mps (i4 [0,t.ix+1] (oz D P).length) (.ref 0:: .ref 1::args)= .ref 0:: .ref (t.ix+1)::args:=by
  rw[AV.mps,AV.mps,ha];rfl
 rw[e1] at key;refine key.mono λr' h' e=>?_;obtain⟨r0,qH,⟨rfl,rfl⟩,-,rfl,rfl⟩:=e;refine⟨hr _,?_⟩;unfold oz;erw [af (Fi hm)];cases t<;>rfl
theorem LV.rdH(P:Pr)(h:LV n f 1 (.ref 0::args) (Dq D.T.d D.x) (bN r<|Dq D'.T.d D'.x))(hm:D'.ms=D.ms)(ha:∀g,AV.mps g args=args)(hr:∀g,r.mp g=r):LV n f 23 (.ref 0::args) (oz D P) (bN r<|oz D' P):=by
 have key:=LV.loc (hp:=oz D P) [0] h (fm rfl)<|.cons rfl .nil;rw[show AV.mps (i4 [0] (oz D P).length) (.ref 0::args)= .ref 0::args by rw[AV.mps,ha];rfl] at key;refine key.mono λr' h' e=>?_;obtain⟨r0,qH,⟨rfl,rfl⟩,-,rfl,rfl⟩:=e;refine⟨hr _,?_⟩;unfold oz;erw [af hm];rfl
theorem Dc.nz(h:t'≠t):∀{l:List Bool} {D:Dc} {s node:Nat},(D.add<|cE t s node l).ms t'=D.ms t'
 |[],D,_,_=>by rw[NC,Dc.add_nil]
 |b::l,D,s,node=>by
  rw[EP, <-cj, <-Dc.eC,Dc.nz h,Dc.Dr,MS.zB h]
theorem Dc.lR:∀{l:List Bool} {D:Dc},(D.add<|l.map .half).ms=D.ms
 |[],D=>by rw[ly,Dc.add_nil]
 |b::l,D=>by
  rw[bW, <-cj, <-Dc.eC,Dc.lR,Dc.NT]
section
variable{D:Dc}{todo:List Ev}
theorem sk(P:Pr)(t:TB){i:Nat}{b:Bool}{ji:Int}(ej:ji=(i:Nat))(hi:i<t.sz P)(h:D.Ok (.bit t i b::todo)):LV 3 1082 23 [.ref 0,.ref<|t.ix+1,.int ji] (oz D P) (bN (.ret<|.int (iN b:Nat))<|oz (D.add [.bit t i b]) P):=
 LV.rd P (Ds ej hi h) (λt' ht=>by exact af Dc.Dr<|af (MS.zB ht) rfl) (λg=>rfl) λg=>rfl
theorem PH(P:Pr)(t:TB){c v start}(hc:c<=31)(hv:v<2 ^ c)(hn:start+2 ^ c<=t.sz P)(h:D.Ok (cE t start 1 (ja v c)++todo)):
 LV 4 1096 23 [.ref 0,.ref<|t.ix+1,.int start,.int c] (oz D P) (bN (.ret<|.int v)<|oz (D.add<|cE t start 1<|ja v c) P):=
 LV.rd P (Yd hc hv hn h) (λt' ht=>Dc.nz ht) (λg=>rfl) λg=>rfl
theorem PJ(P:Pr)(t:TB){c v start}(hc:c<=31)(hv:v<2 ^ c)(hn:start+2 ^ c<=t.sz P)(h:D.Ok (cE t start 1 (Av v c)++todo)):
 LV 4 1103 23 [.ref 0,.ref<|t.ix+1,.int start,.int c] (oz D P) (bN (.ret<|.int v)<|oz (D.add<|cE t start 1<|Av v c) P):=
 LV.rd P (Yg hc hv hn h) (λt' ht=>Dc.nz ht) (λg=>rfl) λg=>rfl
theorem Yw(P:Pr){c v}(hc:c<=31)(hv:v<2 ^ c)(h:D.Ok ((ja v c).map .half++todo)):
 LV 3 1089 23 [.ref 0,.int c] (oz D P) (bN (.ret<|.int v)<|oz (D.add<|(ja v c).map .half) P):=
 LV.rdH P (Yj hc hv h) Dc.lR (λg=>rfl) λg=>rfl
noncomputable def NZ:List Nat:=[0,1,2,3,4,5,6,7,8,9,10,11,12,13,14,15,16,17,18,19,20,21,22]
def uK(P:Pr)(pos n:Nat):List Ev:=.bit .choice 0 ao::cE .low (8*pos) 1 (ja (n-2) 3)
theorem qei(h:P.Ok)(hp:pos<P.ps)(h2:2<=n)(hn:n<10)(hD:D.Ok (uK P pos n++todo)):
 LV 5 437 23 [.ref 0,.ref 13,.int pos] (oz D P) (bN (.ret<|.int n)<|oz (D.add<|uK P pos n) P):=by
 have hps:=h.ps;have e:(2:Int)+((n-2:Nat):Int)=(n:Nat):=‹a+2=b->2+a&&b› (ay h2);refine qdo.one rfl λpost hz=>(kc _ NZ (sk P .choice (i:=0) (b:=ao) rfl (aN _:0<2) hD)<|ka _ (P:=((iN ao:Nat):Int)=0) rfl<|k1 _ (mulR (a:=8) (b:=pos)<|aJ hp<|az hps<|aa rfl)<|kc _ NZ (PH P .low (c:=3) (v:=n-2) (start:=8*pos) (todo:=todo) (aa rfl) (show n-2<8 by exact‹a<10->b+2=a->b<8› hn (ay h2)) (show 8*pos+8<=8*P.ps by exact‹(a<b)^8->8*a+8<=8*b› hp)<|Dc.Ok.step (l:=[_]) hD) ?_);rw[show uK P pos n=[.bit .choice 0 ao]++cE .low (8*pos) 1 (ja (n-2) 3) from rfl, <-Dc.eC, <-e] at hz;exact kz _ hz
end
noncomputable def Al(P:Pr)(ms:MS):AO:=.own 368<|se<|g8 0 P ms
noncomputable def Cj(a b c d:Nat):AO:=.own 426<|se [pA 1,pD a b c d]
theorem LV.hp{hp}(k:LV n f m args hp post)(e:hp'=hp:=by kernel_rfl):LV n f m args hp' post:=e▸k
theorem LV.po{hp}(k:LV n f m args hp (bN r h))(e:h=h':=by kernel_rfl):LV n f m args hp (bN r h'):=e▸k
theorem Yx:LV 1 388 1 [.ref 0] [.inst 426 [aq]] (bN (.ret .none) [Cj 1 1 1 1]):=
 LV.shut qd8 λr1 h1 q=>by rwa[aT q λaH cX=>?_,-q,!aH,!cX,⟨0,426,pA 1,[pD 1 1 1 1],[Cj 1 1 1 1],rfl,⟨rfl,rfl,rfl⟩,rfl,rfl⟩]
theorem qej:LV 1 395 1 [.ref 0] [Cj a b c d] (bN (.ret .none) [Cj 1 1 1 1]):=
 LV.oc 0 426 (o:=pA 1) (os:=[pD a b c d]) (o':=pA 1) (os':=[pD 1 1 1 1]) (LV.drop [1]<|LV.pick (h1:=[pA 2,.gone,pD 1 1 1 1]) (r:=.ret .none) [] [0,2]<|qeg.mle (aN _)<|aA _)
theorem Kp:LV 1 402 1 [.ref 0] [Cj a b c d] (bN (.ret<|.int a) [Cj a b c d]):=
 LV.oc 0 426 (o:=pA 1) (os:=[pD a b c d]) (o':=pA 1) (os':=[pD a b c d]) ((qef (a:=a) (b:=b) (c:=c) (d:=d)).mle (aN _)<|aA 2)
theorem Yy{x:Nat}:LV 1 416 1 [.ref 0,.int x] [Cj a b c d] (bN (.ret .none) [Cj x a b c]):=
 LV.oc 0 426 (o:=pA 1) (os:=[pD a b c d]) (o':=pA 1) (os':=[pD x a b c]) (LV.pick (h1:=[pA 2,.gone,pD x a b c]) (r:=.ret .none) [1] [0,2]<|(qeh (a:=a) (b:=b) (c:=c) (d:=d) (x:=x)).mle (aN _)<|aA 2)
noncomputable def jR:List Nat:=[0,1,22,23,24,25,26,27,28,29,30,31,12,32,33,34,35,17,36,37,38,39]
noncomputable def m1(l:List AO):List AO:=match l with |_::r=>r |[]=>[]
theorem qek(h:P.Ok):LV 5 337 1 [.ref 0] [Al P ms] (bN (.ret .none) [Al P nN]):=
 LV.oc 0 368 (o:=Fh 1 2 12 17) (os:=m1<|g8 0 P ms) (o':=Fh 1 2 12 17) (os':=m1<|g8 0 P nN)
   (LV.drop [2,3,4,5,6,7,8,9,10,11,13,14,15,16,18,19,20,21]<|LV.hp (hp:=Ko 2 13 18 P)<|LV.po (h:=g8 0 P nN)<|LV.pick (h1:=Ko 22 32 36 P++OL P nN++Bu P nN++Bu P nN) (r:=.ret .none) [] jR<|(Ys h).mle (aN _)<|aA 22)
theorem ke(v w:VC)(r:w.G)(e:v=w:=by kernel_rfl):v.G:=e▸r
theorem gJ:∀m<31,gT m<14/\(4<=m->4<=gT m/\gT m<=sP (gT m)/\sP (gT m)<=m/\m-sP (gT m)<2 ^ zA (gT m)/\sP (gT m)-gT m+2 ^ zA (gT m)<=115/\zA (gT m)<=31/\zA (gT m)≠0)/\(m<4->gT m=m):=by decide+kernel
def nQ(n m:Nat):List Ev:=cE .slots (64*min (n-2) 3) 1 (ja (gT m) 6)++
 (if gT m<4 then[] else if gT m<14 then cE .special (sP (gT m)-gT m) 1 (Av (m-sP (gT m))<|zA<|gT m)
  else(ja ((m-sP (gT m))/2 ^ 4)<|zA (gT m)-4).map .half++cE .align 0 1 (Av ((m-sP (gT m))%2 ^ 4) 4))
noncomputable def j22:List Nat:=[1,2,3,4,5,6,7,8,9,10,11,12,13,14,15,16,17,18,19,20,21,22]
theorem qel{D:Dc}(hm:m<31\/m=4294967295)(h:P.Ok)(h2:2<=n)(hD:D.Ok (nQ n m++todo)):
 LV 5 444 23 [.ref 0,.ref 1,.int n] (oz D P) (bN (.ret<|.int (m+1:Nat))<|oz (D.add<|nQ n m) P):=by
 have L8:gT m<64:=by
  rcases hm with hm |rfl
  . exact aZ (gJ m hm).1<|aa rfl
  . exact aA _
 have Af:64*min (n-2) 3+2 ^ 6<=256:=by omega
 unfold nQ at hD |-;rw[ax] at hD;have OM:=Dc.Ok.step hD;refine qdp.one rfl λpost hz=>?_;rw[<-Dc.eC] at hz;refine kc _ j22 (Yt (P:=P) (ms:=D.ms) h2)<|kc _ NZ (PH P .slots (c:=6) (v:=gT m) (aa rfl) L8 Af hD) ?_;generalize D.add (cE .slots (64*min (n-2) 3) 1<|ja (gT m) 6)=E at hz OM |-;refine kf _ (P:=((gT m:Nat):Int)<4) (λa=>?_) λa=>?_
 . have a:gT m<4:=aF.mp a
   have hm4:gT m=m:=by
    rcases hm with hm |rfl
    . by_cases q:m<4
      . exact(gJ m hm).2.2 q
      . have:=((gJ m hm).2.1<|(a8 q)).1;exact xT (‹(a<4)^4->(4<=b)^3->(a<=b)^4› a (a8 q))<|‹(a<4)^26->b<31->(4<=a)^27->b<=a› a hm this
    . exact absurd a<|nofun
   rw[if_pos a,Dc.add_nil] at hz;exact af hm4<|kz _ hz
 . have a:¬gT m<4:=λq=>a (aF.mpr q)
   rw[if_neg a] at hz OM;erw [kc _ [] (Sz L8),kf _ (P:=((gT m:Nat):Int)<14) (λb=>?_) λb=>?_]
   . have b:gT m<14:=aF.mp b
     have hm:m<31:=hm.elim id λq=>by rwa[!q,absurd b<|nofun]
     have h4:4<=m:=a8 λq=>a (by rwa[af ((gJ m hm).2.2 q),q]);obtain⟨s1,s2,s3,s4,s5,s6,-⟩:=(gJ m hm).2.1 h4;rw[if_pos b] at hz OM;refine kc _ j22 (Yu (P:=P) (ms:=E.ms) L8 s2)<|kc _ NZ (PJ P .special s6 s4 s5 OM) ?_;have e:((sP (gT m):Nat):Int)+((m-sP (gT m):Nat):Int)+1=((m+1:Nat):Int):=‹a+b=c->b+a+1&&c+1› (ay s3);exact kz _ (P:=post (.ret<|.int<|((sP (gT m):Nat):Int)+((m-sP (gT m):Nat):Int)+1) _) (by rwa[af e,hz])
   . have b:¬gT m<14:=λq=>b (aF.mpr q)
     have hm:m=4294967295:=hm.elim (λq=>absurd (gJ m q).1 b) id;rw[if_neg b] at hz OM;have e0:gT m=63:=by erw [af hm];rfl
     have e1:zA 63=30:=by rfl
     have e2:sP 63=3221225472:=by rfl
     rw[e0,e1,e2] at hz OM |-;rw[ax] at OM;rw[<-Dc.eC] at hz;have e3:(m-3221225472)/2 ^ 4<2 ^ 26:=by rwa[af hm,aA _]
     rwa[kc _ NZ (Yw P (c:=26) (v:=(m-3221225472)/2 ^ 4) (aa rfl) e3 OM)<|k1 _ (ny (a:=(m-3221225472)/2 ^ 4) (k:=4)<|aZ e3<|aa rfl)<|kc _ NZ (PJ P .align (c:=4) (v:=(m-3221225472)%2 ^ 4) (start:=0) (aa rfl) (bA _<|aN _) (aA _:0+2 ^ 4<=16)<|Dc.Ok.step OM) ?_,!hm,kz _ hz]
noncomputable def km(v k:Nat):Nat:=2 ^ (8-k)+v/2 ^ k
theorem Kq:km v 0=256+v:=by unfold km;exact af (fF _)<|af (ku _) rfl
theorem nR(h:v<256):km v 8=1:=by unfold km;(first |exact(dS h) |exact congrArg _ (dS h) |exact af (dS h) rfl)
theorem mJ(hk:k<8):2*km v (k+1)+iN (v.testBit k)=km v k:=by
 unfold km;have h1:8-k=8-(k+1)+1:=‹a+b=8->c+(b+1)==8->a=c+1› (ay<|bM hk) (ay hk);exact af h1<|af (c3 _ _)<|af (c3 _ _)<|dq (df _ _ _)<|af (iM _ _)<|af (qaX _ _ _)<|af (kh _ _ _)<|af (eQ 2<|2 ^ _)<|af (cu _ _) rfl
theorem qZ(h:v<256)(hk:k<8):km v (k+1)<256:=by
 unfold km;have h1:v/2 ^ (k+1)<2 ^ (8-(k+1)):=hG (by rwa[dq (kx _ _ _),aJ h<|cI (n:=2) (i:=8) (by exact eJ _)<|by exact‹8<=a+(b+1)->8<=b+1+a› (oM _ _)]);have h2:2 ^ (8-(k+1))<=2 ^ 7:=cI (by exact eJ _) (by exact‹a+(b+1)=8->a<=7› (ay hk));exact Nat.add_lt_add_of_le_of_lt h2<|aJ h1 h2
theorem Du:¬km v 0<256:=by rwa[af Kq,iy<|aU _ _]
section
variable{D:Dc}{v start:Nat}
theorem sm(hs:start+768<=P.lits)(h:j<768):start+j<TB.literals.sz P:=aJ (dm h _) hs
def Am(start v k:Nat):List Ev:=cE .literals start (km v k)<|ja v k
theorem Bv(hk:k<8):Am start v (k+1)= .bit .literals (start+km v (k+1)) (v.testBit k)::Am start v k:=by
 unfold Am;erw [dq (mJ hk)];rfl
theorem qem(hv:v<256)(hs:start+768<=P.lits)(hD:D.Ok (cE .literals start 1 (ja v 8)++todo)):
 LV 4 451 23 [.ref 0,.ref 12,.int start] (oz D P) (bN (.ret<|.int v)<|oz (D.add<|cE .literals start 1<|ja v 8) P):=by
 have e8:cE .literals start 1 (ja v 8)=Am start v 8:=by unfold Am;(first |exact(nR hv) |exact congrArg _ (nR hv) |exact af (nR hv) rfl)
 rw[e8] at hD |-;erw [qdq.one rfl λpost hz=>?_,V,kw _ (λ(E:Dc) k=>k<=8/\E.Ok (Am start v k++todo)/\E.add (Am start v k)=D.add (Am start v 8)) (λE k=>[ae<|.ref 0,ae<|.ref 12,ae<|.int start,ae<|.int (km v k:Nat)]) (λE k=>oz E P) D 8 (gp (aA 8) hD rfl) (λk E hE tu=>?_) (hf:=by rwa[af (nR hv),_]),V];obtain⟨hk,hE,ha⟩:=hE;refine kf _ (P:=((km v k:Nat):Int)<256) (λa=>?_) λa=>?_
 . cases k with
   |zero=>exact absurd (aF.mp a) Du
   |succ k=>
    erw [V];have hk:k<8:=hk;have ju:=qZ (v:=v) hv hk;rw[Bv hk] at hE ha;erw [k1 _ (ny (a:=km v<|k+1) (k:=1)<|aZ ju<|aa rfl),kc _ NZ (sk P .literals (D:=E) (i:=start+km v (k+1)) (b:=v.testBit k) rfl (sm hs<|aZ ju<|aa rfl) hE)]
    exact tu.by _ (E.add [.bit .literals (start+km v (k+1))<|v.testBit k]) k (bH k) (gp (bM hk) (Dc.Ok.step (l:=[_]) hE)<|Dc.eC.trans ha) (λx=>[ae<|.ref 0,ae<|.ref 12,ae<|.int start,ae<|.int x])
     ((sg (km v<|k+1)<|v.testBit k).trans<|congrArg lV<|mJ hk)
 . cases k with
   |succ k=>exact absurd (aF.mpr<|qZ hv hk) a
   |zero=>
    erw [V];have e:((km v 0:Nat):Int)-256=(v:Nat):=by rwa[af Kq,‹256+a-256&&a›]
    rw[show Am start v 0=[] from rfl,Dc.add_nil] at ha;exact kz _ (P:=post (.ret<|.int<|((km v 0:Nat):Int)-256)<|oz E P) (by rwa[af e<|af ha ?_,hz])
theorem kt(v:VC){n:Nat}{is:IS}{hp:List AO}{post:AR->List AO->Prop}(r:∀fr,v.tf=fr->(kX n is fr hp post).G)(e:v=kX n is v.tf hp post:=by kernel_rfl):v.G:=e▸r _ rfl
theorem TW.by2{σ:Type}{inv:σ->Nat->Prop}{fo:σ->Nat->Frs}{ho:σ->Nat->List AO}{n:Nat}(tu:TW inv fo ho n)(v:VC)(s:σ)(m:Nat)(hm:m<n)(h:inv s m)(F:Int->Int->Frs){x y x' y':Int}(WN:x=y)(qen:x'=y')(e1:v.tf=F x x':=by kernel_rfl)(e2:F y y'=mg (fo s m) (F y y'):=by kernel_rfl)(hh:v.th=ho s m:=by kernel_rfl)(hJ:v.tJ=JW inv fo ho n:=by kernel_rfl):v.G:=
 ⟨tu.go v hJ s m hm h (by refine af e1<|af WN<|af qen ?_;exact .of e2) hh⟩
noncomputable def cU(i:IS):IS:=match i with |.cons _ r=>r |_=>.bad
theorem Yz{x:Int}(hv:v<256)(hs:start+768<=P.lits)(hk0:k0<=8)(ex:x=(km v k0:Nat))(hD:E0.Ok (Am start v k0++todo))(hz:post (.ret<|.int v) (oz (E0.add<|Am start v k0) P))(Cq:fr=mg [ae<|.ref 0,ae<|.ref 12,ae<|.int start,aq,ae<|.int x,aq,aq,aq] fr):(kX 3 (cU<|cU WR) fr (oz E0 P) post).G:=by
 erw [!ex,kw _ (λ(E:Dc) k=>k<=8/\E.Ok (Am start v k++todo)/\E.add (Am start v k)=E0.add (Am start v k0)) (λE k=>[ae<|.ref 0,ae<|.ref 12,ae<|.int start,aq,ae<|.int (km v k:Nat),aq,aq,aq]) (λE k=>oz E P) E0 k0 (gp hk0 hD rfl) (λk E hE tu=>?_) (hf:=Cq),V];obtain⟨hk,hE,ha⟩:=hE;refine kf _ (P:=((km v k:Nat):Int)<256) (λa=>?_) λa=>?_
 . cases k with
   |zero=>exact absurd (aF.mp a) Du
   |succ k=>
    erw [V];have hk:k<8:=hk;have ju:=qZ (v:=v) hv hk;rw[Bv hk] at hE ha;erw [k1 _ (ny (a:=km v<|k+1) (k:=1)<|aZ ju<|aa rfl),kc _ NZ (sk P .literals (D:=E) (i:=start+km v (k+1)) (b:=v.testBit k) rfl (sm hs<|aZ ju<|aa rfl) hE)]
    exact tu.by _ (E.add [.bit .literals (start+km v (k+1))<|v.testBit k]) k (bH k) (gp (bM hk) (Dc.Ok.step (l:=[_]) hE)<|Dc.eC.trans ha) (λx=>[ae<|.ref 0,ae<|.ref 12,ae<|.int start,aq,ae<|.int x,aq,aq,aq])
     ((sg (km v<|k+1)<|v.testBit k).trans<|congrArg lV<|mJ hk)
 . cases k with
   |succ k=>exact absurd (aF.mpr<|qZ hv hk) a
   |zero=>
    erw [V];have e:((km v 0:Nat):Int)-256=(v:Nat):=by rwa[af Kq,‹256+a-256&&a›]
    rw[show Am start v 0=[] from rfl,Dc.add_nil] at ha;exact kz _ (P:=post (.ret<|.int<|((km v 0:Nat):Int)-256)<|oz E P) (by rwa[af e<|af ha ?_,hz])
def G6(start v mt k:Nat):List Ev:=fH start v mt (km v k) k
theorem Bw{mt:Nat}(hk:k<8):G6 start v mt (k+1)= .bit .literals (start+(1+iN (mt.testBit k))*256+km v (k+1)) (v.testBit k)::(if v.testBit k=mt.testBit k then G6 start v mt k else Am start v k):=by
 unfold G6 Am;erw [dq (mJ hk)];rfl
theorem SQ{mt:Nat}(hk:k<8):aO (((mt*2 ^ (8-(k+1)):Nat):Int).fdiv<|2 ^ (7:Int).toNat) 1=((iN (mt.testBit k):Nat):Int):=by
 exact(nP (mt*2 ^ (8-(k+1))) 7).trans (af (Nat.testBit_mul_two_pow _ _ _)<|af ((by decide:∀k<8,7-(8-(k+1))=k) k hk)<|af (decide_eq_true (by exact‹a+(b+1)=8->a<=7› (ay hk):7>=8-(k+1)))<|af (Ug _) rfl)
theorem zE:(((iN a:Nat):Int)=(iN b:Nat))↔a=b:=by cases a<;>cases b<;>(decide)
theorem qeo{mt:Nat}(hv:v<256)(hm:mt<256)(hs:start+768<=P.lits)(hD:D.Ok (fH start v mt 1 8++todo)):
 LV 4 458 23 [.ref 0,.ref 12,.int start,.int mt] (oz D P) (bN (.ret<|.int v)<|oz (D.add<|fH start v mt 1 8) P):=by
 have e8:fH start v mt 1 8=G6 start v mt 8:=by unfold G6;(first |exact(nR hv) |exact congrArg _ (nR hv) |exact af (nR hv) rfl)
 rw[e8] at hD |-;refine qdr.one rfl λpost hz=>?_
 refine eX ?_;intro V;refine kw _ (λ(E:Dc) k=>k<=8/\E.Ok (G6 start v mt k++todo)/\E.add (G6 start v mt k)=D.add (G6 start v mt 8)) (λE k=>[ae<|.ref 0,ae<|.ref 12,ae<|.int start,aq,ae<|.int (km v k:Nat),ae<|.int (mt*2 ^ (8-k):Nat),aq,aq]) (λE k=>oz E P) D 8 (gp (aA 8) hD rfl) (λk E hE tu=>?_)
  (hf:=by rwa[af (nR hv)<|af (cS _)<|af (fF _)<|af (qaU _) ?_,_])
 erw [V];obtain⟨hk,hE,ha⟩:=hE;refine kf _ (P:=((km v k:Nat):Int)<256) (λa=>?_) λa=>?_
 . cases k with
   |zero=>exact absurd (aF.mp a) Du
   |succ k=>
    erw [V];have hk:k<8:=hk;have ju:=qZ (v:=v) hv hk;have hd:=SQ (mt:=mt) hk;have hb:=tL<|mt.testBit k;have hr:mt*2 ^ (8-(k+1))<2 ^ 60:=aJ (Nat.mul_lt_mul_of_lt_of_le hm (cI (n:=2) (j:=8) (aN _)<|(dk _ _))<|aN _)<|aa rfl;rw[Bw hk] at hE ha;erw [k1 _ (P:=decide ((0:Int)<=7)=ah) rfl<|k1 _ (ny (a:=mt*2 ^ (8-(k+1))) (k:=1) hr) ?_,k1 _ (show rR (1+aO (((mt*2 ^ (8-(k+1)):Nat):Int).fdiv<|2 ^ (7:Int).toNat) 1) 8 by rwa[af hd,ny (a:=1+iN (mt.testBit k))<|by lia])]
    refine kc _ NZ (sk P .literals (D:=E) (ji:=start+(1+aO (((mt*2 ^ (8-(k+1)):Nat):Int).fdiv<|2 ^ (7:Int).toNat) 1)*2 ^ (8:Int).toNat+(km v (k+1):Nat)) (i:=start+(1+iN (mt.testBit k))*256+km v (k+1)) (b:=v.testBit k)
     (by refine af hd ?_;rfl) (by refine af (kh _ _ _) ?_;exact sm hs<|‹a<256->(b<2)^256->(1+b)%256+a<768› (aF.mp a) hb) hE) ?_
    erw [k1 _ (ny (a:=km v<|k+1) (k:=1)<|aZ ju<|aa rfl),V];have U5:=(sg (km v<|k+1)<|v.testBit k).trans<|congrArg lV<|mJ (v:=v) hk;have hE1:=Dc.Ok.step (l:=[_]) hE;refine kf _ (P:=((iN (v.testBit k):Nat):Int)=aO (((mt*2 ^ (8-(k+1)):Nat):Int).fdiv<|2 ^ (7:Int).toNat) 1) (λq=>?_) λq=>?_
    . refine eX ?_;intro V;rw[hd] at q
      have q:=zE.mp q;rw[if_pos q] at hE1 ha
      have er:((mt*2 ^ (8-(k+1)):Nat):Int)*2 ^ (1:Int).toNat=((mt*2 ^ (8-k):Nat):Int):=by
       refine af (show 8-k=8-(k+1)+1 by exact‹a+b=8->c+(b+1)==8->a=c+1› (ay<|bM hk) (ay hk))<|af (c3 _ _)<|dq (gF _ _ _) ?_;rfl
      exact tu.by2 _ (E.add [_]) k (bH k) (gp (bM hk) hE1<|Dc.eC.trans ha) (λx y=>[ae<|.ref 0,ae<|.ref 12,ae<|.int start,aq,ae<|.int x,ae<|.int y,ae<|.int<|aO (((mt*2 ^ (8-(k+1)):Nat):Int).fdiv<|2 ^ (7:Int).toNat) 1,ae<|.int (iN (v.testBit k):Nat)]) U5 er
    . refine eX ?_;intro V;rw[hd] at q
      have q:¬v.testBit k=mt.testBit k:=λh=>q<|zE.mpr h;rw[if_neg q] at hE1 ha;exact kt _ λfr efr=>Yz (post:=post) hv hs (bM hk) U5 hE1 (by rwa[af Dc.eC,(congrArg (λd=>post (.ret<|.int v)<|oz d P) ha).mpr hz]) (by rwa[!efr,_])
 . cases k with
   |succ k=>exact absurd (aF.mpr<|qZ hv hk) a
   |zero=>
    exact kt _ λfr efr=>Yz (k0:=0) (post:=post) hv hs (cM 8) rfl hE (by rw[<-ha] at hz;exact hz) (by rwa[!efr,_])
end
structure Pk where
 mo:Option Nat
 pl:Nat
 st:Nat
 pY:Bool
 rs:Nat
 w:List UInt8
 r0:Nat
 r1:Nat
 r2:Nat
 r3:Nat
noncomputable def YA(o:Option Nat):AV:=.opt<|o.map λ(n:Nat)=>(n:Int)
noncomputable def Pk.o(K:Pk)(P:Pr)(ms:MS):List AO:=[.inst 673 [ae<|.ref 1,ae<|.ref 2,ae<|YA K.mo,ae<|.int K.pl,ae<|.int K.st,ae<|.ref 4,ae<|.bool K.pY,ae<|.int K.rs],Al P ms,
 .inst 1000 [ae<|.int 64,ae<|.int K.w.length,ae<|.ref 3,ae<|.int K.w.length],.ba K.w,Cj K.r0 K.r1 K.r2 K.r3]
noncomputable def rdX(D:Dc):AO:=.inst 1106 [ae<|.bytes D.T.d,ae<|.int D.T.d.length,ae<|.int 0,ae<|.int D.x.place,ae<|.int D.x.span,ae<|.int D.x.code]
noncomputable def eU(K:Pk)(P:Pr)(D:Dc):List AO:=K.o P D.ms++[rdX D]
def HL(K:Pk)(P:Pr)(D:Dc):List AO:=jC 1 (Fh 1 2 12 17) (m1<|g8 0 P D.ms)<|eU K P D
inductive bZ |lit(o:Nat) |mat(d n:Nat) |fin
noncomputable def sS(x:String):AV:=.str<|ab x
noncomputable def bZ.av:bZ->AV
 |.lit o=>.tup [sS "lit",.int o]
 |.mat d n=>.tup [sS "match",.int d,.int n]
 |.fin=>.tup [sS "end"]
def Pk.nx(K:Pk):bZ->Pk
 |.lit _=>{K with st:=aL K.st}
 |.mat d _=>{K with st:=aM K.st,r0:=d,r1:=K.r0,r2:=K.r1,r3:=K.r2}
 |.fin=>{K with st:=aM K.st}
def Fj(w:List UInt8):Nat:=if w.length=0 then 0 else(pN w 1).toNat
def Ag(P:Pr)(st:Nat)(w:List UInt8)(r0 o:Nat):List Ev:=
 if st<7 then cE .literals (768*mj P w.length (Fj w)) 1 (ja o 8) else fH (768*mj P w.length (Fj w)) o (pN w r0).toNat 1 8
def qj(P:Pr)(pl n m:Nat):List Ev:=uK P (pl%P.ps) n++nQ n m
def qk(P:Pr)(st:Nat)(w:List UInt8)(r0:Nat):bZ->List Ev
 |.lit o=>.bit .isMatch (st*16+w.length%P.ps) ao::Ag P st w r0 o
 |.mat d n=>.bit .isMatch (st*16+w.length%P.ps) ah:: .bit .jg st ao::qj P w.length n (d-1)
 |.fin=>.bit .isMatch (st*16+w.length%P.ps) ah:: .bit .jg st ao::qj P w.length 2 4294967295
structure Pk.Ok(K:Pk):Prop where
 pl:K.pl=K.w.length
 st:K.st<12
 w:K.w.length<57
def bZ.Ok(st r0:Nat)(w:List UInt8):bZ->Prop
 |.lit o=>o<256/\(7<=st->1<=r0/\r0<=w.length)
 |.mat d n=>(1<=d/\d<=w.length/\d<32)/\2<=n/\n<7
 |.fin=>True
noncomputable def jD:List Nat:=[5,1,6,7,8,9,10,11,12,13,14,15,16,17,18,19,20,21,22,23,24,25,26]
noncomputable def jM:List Nat:=[1,6,7,8,9,10,11,12,13,14,15,16,17,18,19,20,21,22,23,24,25,26]
noncomputable def YB:List Nat:=[0,1,2,3,4,5,6,7,8,9,10,11,12,13,14,15,16,17,18,19,20,21,22,23,24,25,26]
theorem yG(h:P.Ok)(hb:b<256):768*mj P pl b+768<=P.lits:=by
 have hc:P.lc<=8:=az (aU _ _)<|az h.l<|aa rfl;have h1:pl%2 ^ P.lp+1<=2 ^ P.lp:=L5<|bA _<|g9<|aN _;have h2:b/2 ^ (8-P.lc)<2 ^ P.lc:=hG (by rwa[dq (kx _ _ _)<|af (ay hc) ?_,hb]);have h3:(pl%2 ^ P.lp+1)*2 ^ P.lc<=2 ^ P.lp*2 ^ P.lc:=kq _ h1;have h4:mj P pl b+1<=2 ^ P.lp*2 ^ P.lc:=by unfold mj;rw[xk,qaW] at h3;exact‹a<b->c+b<=d->c+a+1<=d› h2 h3
 unfold Pr.lits;rwa[af (eO P.lc _)<|af (kx _ _ _) ?_,‹(a+1<=b)^768->768*a+768<=768*b› h4]
section
variable{P:Pr}{K:Pk}
theorem Kr:Fj w<256:=by
 unfold Fj
 split
 . exact aN _
 . exact fW _
theorem YC(hw:K.w.length<64)(h2:d<=K.w.length):LV 3 522 27 [.ref 0,.int d] (HL K P D) (bN (.ret .none)<|HL K P D):=by
 rwa[qdu.one rfl λpost hz=>?_,V,kc _ [2,3] (NW hw),kb _ (P:=((K.w.length:Nat):Int)<d) (bO.mpr<|bY.mpr h2)<|kz _ hz]
theorem Ks{st:Nat}(h:st<7):LV 1 267 0 [.int st] [] (bN (.ret<|.bool ah) []):=by
 have:=X3 (st:=st);rw[decide_eq_true h] at this;exact this
theorem Kt{st:Nat}(h:¬st<7):LV 1 267 0 [.int st] [] (bN (.ret<|.bool ao) []):=by
 have:=X3 (st:=st);rw[decide_eq_false h] at this;exact this
theorem Ku(hP:P.Ok)(hK:K.Ok)(ho:bZ.Ok K.st K.r0 K.w (.lit o))(hD:D.Ok (Ag P K.st K.w K.r0 o++todo))(hz:post (.ret<|bZ.av<|.lit o) (HL (K.nx<|.lit o) P<|D.add<|Ag P K.st K.w K.r0 o)):(kX 5 (cU WT) [ae<|.ref 0,ae<|.ref 5,ae<|.int (Fj K.w:Nat),aq,aq] (HL K P D) post).G:=by
 erw [V];obtain⟨oy,Af,hw⟩:=hK;have hb:Fj K.w<256:=Kr;have qF:=yG (pl:=K.w.length) hP hb;obtain⟨ho,hr⟩:=ho;rw[<-oy] at qF;unfold Ag at hz hD;rw[<-oy] at hz hD;erw [kc _ jM (Yv (P:=P) (ms:=D.ms) (pl:=K.pl) (b:=Fj K.w) hP hb),V];by_cases h7:K.st<7
 . refine eX ?_;intro V;rw[if_pos h7] at hz hD
   exact kc _ [] (Ks h7)<|kc _ jD (qem (P:=P) ho qF hD)<|kc _ [] (SD (st:=K.st))<|kz _ hz
 . refine eX ?_;intro V;obtain⟨h1,h2⟩:=hr (a8 h7)
   rw[if_neg h7] at hz hD;exact kc _ [] (Kt h7)<|kc _ [4] (Kp (a:=K.r0) (b:=K.r1) (c:=K.r2) (d:=K.r3))<|kc _ YB (YC (K:=K) (P:=P) (D:=D) (d:=K.r0) (aZ hw<|aa rfl) h2)<|kc _ [4] (Kp (a:=K.r0) (b:=K.r1) (c:=K.r2) (d:=K.r3))<|kc _ [2,3] (SJ (w:=K.w) (d:=K.r0) (aZ hw<|aa rfl) h1 h2)<|kc _ jD (qeo (P:=P) (mt:=(pN K.w K.r0).toNat) ho (fW _) qF hD)<|kc _ [] (SD (st:=K.st))<|kz _ hz
theorem qep(hP:P.Ok)(hK:K.Ok)(ho:bZ.Ok K.st K.r0 K.w (.lit o))(hD:D.Ok (Ag P K.st K.w K.r0 o++todo)):
 LV 6 536 27 [.ref 0,.ref 5] (HL K P D) (bN (.ret<|bZ.av<|.lit o)<|HL (K.nx<|.lit o) P<|D.add<|Ag P K.st K.w K.r0 o):=by
 refine qdv.one rfl λpost hz=>?_;have key:=Ku (post:=post) hP hK ho hD hz;by_cases h0:K.w.length=0
 . have F1:K.pl=0:=hK.pl.trans h0
   erw [kb _ (P:=(0:Int)<K.pl) (by erw [af F1];decide)];rw[show Fj K.w=0 from if_pos h0] at key;exact ke _ _ key
 . have F1:(0:Int)<K.pl:=by refine af hK.pl ?_;exact aF.mpr (tY h0)
   erw [ka _ F1 (kc _ [2,3] (NW (w:=K.w)<|aZ hK.w<|by decide) ?_),ka _ (P:=(0:Int)<(K.w.length:Nat)) (by rwa[dq hK.pl,F1]),kc _ [2,3] (SJ (w:=K.w) (d:=1) (aZ hK.w<|by decide) (aA 1)<|tY h0)];rw[show Fj K.w=(pN K.w 1).toNat from if_neg h0] at key;exact ke _ _ key
theorem Dv:pl%P.ps<P.ps:=bA _<|g9<|aN _
theorem zF{st}(hP:P.Ok)(h:st<12):st*16+pl%P.ps<192:=by
 have h1:=aJ (Dv (P:=P) (pl:=pl)) hP.ps;exact‹(a<12)^16->b<16->a%16+b<192› h h1
theorem YD(hP:P.Ok)(h2:2<=n)(hn:n<10)(hw:K.w.length<57)(hm:(m<31/\m+1<=K.w.length)\/m=4294967295)(hD:D.Ok (qj P K.pl n m++todo)):
 LV 7 543 27 [.ref 0,.ref 5] (HL K P D) (bN (.ret<|if m=4294967295 then bZ.av .fin else bZ.av (.mat (m+1) n))<|HL (if m=4294967295 then K.nx .fin else K.nx (.mat (m+1) n)) P<|D.add<|qj P K.pl n m):=by
 unfold qj at hD |-;rw[ax] at hD;refine dq Dc.eC<|qdw.one rfl λpost hz=>(kc _ [6] (SM (lc:=P.lc) (lp:=P.lp) (pb:=P.pb) (p:=K.pl) hP.p)<|kc _ jD (qei (P:=P) (pos:=K.pl%P.ps) hP Dv h2 hn hD)<|kc _ jD (qel (P:=P) (n:=n) (m:=m) (hm.imp And.left id) hP h2<|Dc.Ok.step hD)<|kc _ [] (SE (st:=K.st)) ?_);by_cases q:m=4294967295
 . rw[if_pos q,if_pos q] at hz
   rwa[ka _ (P:=((m+1:Nat):Int)=4294967296) (by erw [af q];rfl),kz _ hz]
 . rw[if_neg q,if_neg q] at hz
   rwa[aT (hm.resolve_right q) λm1 m2=>?_,kb _ (P:=((m+1:Nat):Int)=4294967296) (λh=>q (by have:=gm h;exact‹a+1=4294967296->a=4294967295› this)),kc _ YB (YC (K:={K with st:=aM K.st}) (P:=P) (D:=(D.add<|uK P (K.pl%P.ps) n).add<|nQ n m) (d:=m+1) (aZ hw<|aa rfl) m2)<|kc _ [4] (Yy (a:=K.r0) (b:=K.r1) (c:=K.r2) (d:=K.r3) (x:=m+1))<|kz _ hz]
end
theorem LV.wd{n f}{args}{r}{σ σ'}(P:Pr){t}(h:LV n f 3 (.ref 0:: .ref 2::args) (Fc σ t<|t.sz P) (bN r<|Fc σ' t<|t.sz P))
 (hm:∀t',t'≠t->σ'.e.ms t'=σ.e.ms t') (ha:∀g,AV.mps g args=args) (hr:∀g,r.mp g=r):LV n f 24 (.ref 0:: .ref (t.ix+2)::args) (yF σ P) (bN r<|yF σ' P):=by
 have hs:F2 (λj o=>(yF σ P)[j]? =ae (AO.mp (i4 [0,1,t.ix+2] (yF σ P).length) o)) [0,1,t.ix+2] (Fc σ t<|t.sz P):=.cons rfl (.cons rfl<|.cons (by cases t<;>rfl) .nil);have key:=LV.loc (hp:=yF σ P) [0,1,t.ix+2] h (by cases t<;>exact fm rfl) hs
 have e1:AV.mps (i4 [0,1,t.ix+2] (yF σ P).length) (.ref 0:: .ref 2::args)= .ref 0:: .ref (t.ix+2)::args:=by
  rw[AV.mps,AV.mps,ha];rfl
 rw[e1] at key;refine key.mono λr' h' e=>?_;obtain⟨r0,qH,⟨rfl,rfl⟩,-,rfl,rfl⟩:=e;refine⟨hr _,?_⟩;unfold yF;erw [af (Fi hm)];cases t<;>rfl
theorem LV.wdH(P:Pr)(h:LV n f 2 (.ref 0::args) (zC σ) (bN r<|zC σ'))(hm:σ'.e.ms=σ.e.ms)(ha:∀g,AV.mps g args=args)(hr:∀g,r.mp g=r):LV n f 24 (.ref 0::args) (yF σ P) (bN r<|yF σ' P):=by
 have key:=LV.loc (hp:=yF σ P) [0,1] h (fm rfl)<|.cons rfl<|.cons rfl .nil;rw[show AV.mps (i4 [0,1] (yF σ P).length) (.ref 0::args)= .ref 0::args by rw[AV.mps,ha];rfl] at key;refine key.mono λr' h' e=>?_;obtain⟨r0,qH,⟨rfl,rfl⟩,-,rfl,rfl⟩:=e;refine⟨hr _,?_⟩;unfold yF;erw [af hm];rfl
theorem St.nz(h:t'≠t):∀{l:List Bool} {σ:St} {s node:Nat},(σ.run<|cE t s node l).e.ms t'=σ.e.ms t'
 |[],σ,_,_=>rfl
 |b::l,σ,s,node=>by
  rw[EP,St.pv,St.nz h];show((σ.e.ev _).ms) t'=_;rw[ES.Fb,MS.zB h]
theorem St.lR:∀{l:List Bool} {σ:St},(σ.run<|l.map .half).e.ms=σ.e.ms
 |[],σ=>rfl
 |b::l,σ=>by
  rw[bW,St.pv,St.lR];exact ES.lR
theorem St.pZ{σ:St}:σ.run (l++m)=(σ.run l).run m:=fE
theorem iq:∀{l:List Bool} {s node:Nat},(cE t s node l).length=l.length
 |[],_,_=>rfl
 |b::l,_,_=>congrArg (· +1) iq
theorem q8(n c:Nat):(Av n c).length=c:=by
 induction c generalizing n with
 |zero=>rfl
 |succ c ih=>exact congrArg (· +1)<|ih _
theorem St.Ok.le{σ:St}(h:σ.Ok r)(e:r'<=r):σ.Ok r':=⟨h.at_,h.e,az (f5 e _) h.room⟩
section
variable{σ:St}{r:Nat}
theorem yH(P:Pr)(t:TB){i:Nat}{b:Bool}{j x:Int}(ej:j=(i:Nat))(ex:x=(iN b:Nat))(hi:i<t.sz P)(h:σ.Ok r):LV 3 1152 24 [.ref 0,.ref<|t.ix+2,.int j,.int x] (yF σ P) (bN (.ret .none)<|yF (σ.run [.bit t i b]) P):=
 LV.wd P (Dp ej ex hi h) (λt' ht=>by show((σ.e.ev _).ms) t'=_;exact af ES.Fb<|af (MS.zB ht) rfl) (λg=>rfl) λg=>rfl
theorem PK(P:Pr)(t:TB){c v start}(hc:c<=31)(hv:v<2 ^ c)(hn:start+2 ^ c<=t.sz P)(h:σ.Ok ((cE t start 1<|ja v c).length+r)):
 LV 4 1166 24 [.ref 0,.ref<|t.ix+2,.int start,.int c,.int v] (yF σ P) (bN (.ret .none)<|yF (σ.run<|cE t start 1<|ja v c) P):=
 LV.wd P (X7 (r:=r) hc hv hn<|by rw[iq,gI] at h;exact h) (λt' ht=>St.nz ht) (λg=>rfl) λg=>rfl
theorem PL(P:Pr)(t:TB){c v start}(hc:c<=31)(hv:v<2 ^ c)(hn:start+2 ^ c<=t.sz P)(h:σ.Ok ((cE t start 1<|Av v c).length+r)):
 LV 4 1173 24 [.ref 0,.ref<|t.ix+2,.int start,.int c,.int v] (yF σ P) (bN (.ret .none)<|yF (σ.run<|cE t start 1<|Av v c) P):=
 LV.wd P (X8 (r:=r) hc hv hn<|by rw[iq,q8] at h;exact h) (λt' ht=>St.nz ht) (λg=>rfl) λg=>rfl
theorem YE(P:Pr){c v}(hc:c<=31)(hv:v<2 ^ c)(h:σ.Ok (((ja v c).map Ev.half).length+r)):
 LV 4 1159 24 [.ref 0,.int c,.int v] (yF σ P) (bN (.ret .none)<|yF (σ.run<|(ja v c).map .half) P):=
 LV.wdH P (X9 (r:=r) hc hv<|by rw[a3,gI] at h;exact h) St.lR (λg=>rfl) λg=>rfl
end
def HM(K:Pk)(P:Pr)(σ:St):List AO:=[.inst 917 [ae<|.ref 1,ae<|.ref 2,ae<|.int K.pl,ae<|.int K.st,ae<|.ref 4],Al P σ.e.ms,
 .inst 1190 [ae<|.ref 3,ae<|.int σ.x.low,ae<|.int σ.e.span,ae<|.int σ.x.cache,ae<|.int σ.x.held,ae<|.bool ao],.ba<|ya σ.x.made,Cj K.r0 K.r1 K.r2 K.r3]
def p0(K:Pk)(P:Pr)(σ:St):List AO:=jC 1 (Fh 1 2 12 17) (m1<|g8 0 P σ.e.ms)<|HM K P σ
noncomputable def jW:List Nat:=[2,3,1,5,6,7,8,9,10,11,12,13,14,15,16,17,18,19,20,21,22,23,24,25]
noncomputable def jN:List Nat:=[1,5,6,7,8,9,10,11,12,13,14,15,16,17,18,19,20,21,22,23,24,25]
noncomputable def Bx:List Nat:=[0,1,2,3,4,5,6,7,8,9,10,11,12,13,14,15,16,17,18,19,20,21,22,23,24,25]
theorem YF{σ:St}{K:Pk}{start:Nat}(hP:P.Ok)(hc:c<=8)(hn:node<2 ^ (9-c))(hs:start+768<=P.lits)(h:σ.Ok ((cE .literals start node<|ja o c).length+r)):
 LV 5 739 26 [.ref 0,.int start,.int node,.int o,.int c] (p0 K P σ) (bN (.ret .none)<|p0 K P<|σ.run<|cE .literals start node<|ja o c):=by
 refine qdG.one rfl λpost hz=>?_
 refine kr _ c _ (λ(s:Nat×St) i=>s.1<2 ^ (9-(c-i))/\s.2.Ok ((cE .literals start s.1<|ja o<|c-i).length+r)/\s.2.run (cE .literals start s.1<|ja o<|c-i)=σ.run (cE .literals start node<|ja o c))
  (λs i=>[ae<|.ref 0,ae<|.int start,ae<|.int s.1,ae<|.int o,ae<|.int c,aq,aq]) (λs i=>p0 K P s.2) (node,σ) (l5.down<|az hc<|aa rfl) (gp hn h rfl) (λi s hi Cp tu=>?_) λs Cp=>?_
 . obtain⟨nd,τ⟩:=s
   erw [lE Cp λh1 h2 h3=>?_,-Cp];rw[mI hi, <-jh i c] at h2 h3;have hq:c-i=c-(i+1)+1:=by rwa[af (jh _ _),mI hi]
   have h1:nd<2 ^ (9-(c-i)):=h1;have h8:nd<256:=aJ h1<|cI (n:=2) (j:=8) (aN _)<|‹a==b+1->c+a=9->c<=8› hq (ay<|‹a<=8->b<=a->b<=9› hc (dk _ _));erw [k1 _ (P:=decide ((0:Int)<=((c-1-i:Nat):Int))=ah) (decide_eq_true<|aD _) (kc _ jW (yH P .literals (σ:=τ) (i:=start+nd) (b:=o.testBit<|c-(i+1)) (r:=0) (x:=aO ((o:Int).fdiv<|2 ^ ((c-1-i:Nat):Int).toNat) 1) rfl ((nP o<|c-1-i).trans<|by(first |exact(jh i c) |exact congrArg _ (jh i c) |exact af (jh i c) rfl)) (aJ (dm (aZ h8<|aa rfl) _) hs)<|h2.le<|cM _)<|k1 _ (mulR (a:=2) (b:=nd)<|aZ h8<|aa rfl) ?_),tu.by _ (2*nd+iN (o.testBit<|c-(i+1)),τ.run [.bit .literals (start+nd)<|o.testBit<|c-(i+1)]) (gp ?_ ?_ h3) (λx=>[ae<|.ref 0,ae<|.int start,ae<|.int x,ae<|.int o,ae<|.int c,ae<|.int ((c-1-i:Nat):Int),ae<|.int<|aO ((o:Int).fdiv<|2 ^ ((c-1-i:Nat):Int).toNat) 1]) (x:=2*(nd:Int)+aO ((o:Int).fdiv<|2 ^ ((c-1-i:Nat):Int).toNat) 1) (y:=((2*nd+iN (o.testBit<|c-(i+1)):Nat):Int)) ?_]
   . have:=tL (o.testBit<|c-(i+1))
     show 2*nd+iN (o.testBit<|c-(i+1))<2 ^ (9-(c-(i+1)));rwa[af (show 9-(c-(i+1))=9-(c-i)+1 by exact‹a=b+1->c+b=9->d+a==9->c=d+1› hq (ay<|‹a<=8->b<=a->b<=9› hc (dk _ _)) (ay<|‹a<=8->b<=a->b<=9› hc (dk _ _)))<|af (c3 _ _) ?_,‹(a<b)^2->c<2->2*a+c<b%2› h1 this]
   . exact St.kZ (l:=[_]) (by rw[show(cE .literals start nd<|ja o<|c-(i+1)+1).length+r=[Ev.bit .literals (start+nd)<|o.testBit<|c-(i+1)].length+((cE .literals start (2*nd+iN (o.testBit<|c-(i+1)))<|ja o<|c-(i+1)).length+r) by rwa[af (show cE .literals start nd (ja o<|c-(i+1)+1)= .bit .literals (start+nd) (o.testBit<|c-(i+1))::cE .literals start (2*nd+iN (o.testBit<|c-(i+1))) (ja o<|c-(i+1)) from rfl)<|af bQ<|af List.length_singleton ?_,‹a+1+b=1+(a+b)›]] at h2;exact h2)
   . refine af (nP _ _)<|dq (jh i c) ?_;rfl
 . rw[cS] at Cp
   exact kz _ (P:=post (.ret .none)<|p0 K P s.2)<|af (show s.2=σ.run (cE .literals start node<|ja o c) from Cp.2.2)<|hz
theorem St.sq{σ:St}(h:σ.Ok ((v::l).length+r)):(σ.run [v]).Ok (l.length+r):=St.kZ (l:=[v]) (h.le<|by show 1+(l.length+r)<=l.length+1+r;exact‹1+(a+b)<=a+1+b›)
theorem St.zG{σ:St}(h:σ.Ok ((l++m).length+r)):(σ.run l).Ok (m.length+r):=St.kZ (h.le<|by rwa[af aj,‹a+(b+c)<=a+b+c›])
theorem St.zH{σ:St}{l:List Ev}(h:σ.Ok ((l++m).length+r)):σ.Ok (l.length+0):=h.le (by rwa[af aj,‹a+0<=a+b+c›])
section
variable{σ:St}{K:Pk}
theorem qeq{start:Nat}{mt:Nat}(hP:P.Ok)(ho:o<256)(hs:start+768<=P.lits)(h:σ.Ok ((fH start o mt 1 8).length+r)):
 LV 7 746 26 [.ref 0,.int start,.int o,.int mt] (p0 K P σ) (bN (.ret .none)<|p0 K P<|σ.run<|fH start o mt 1 8):=by
 have e8:fH start o mt 1 8=G6 start o mt 8:=by unfold G6;(first |exact(nR ho) |exact congrArg _ (nR ho) |exact af (nR ho) rfl)
 rw[e8] at h |-;refine qdH.one rfl λpost hz=>?_
 refine eX ?_;intro V;refine kr _ 8 _ (λ(τ:St) i=>τ.Ok ((G6 start o mt<|8-i).length+r)/\τ.run (G6 start o mt<|8-i)=σ.run (G6 start o mt 8))
  (λs i=>[ae<|.ref 0,ae<|.int start,ae<|.int o,ae<|.int mt,ae<|.int (km o (8-i):Nat),aq,aq,aq]) (λτ i=>p0 K P τ) σ (l5.down (n:=8)<|aa rfl) ⟨h,rfl⟩ (λi τ hi Cp tu=>?_) (λτ Cp=>?_)
  (hf:=by rwa[af (lI _)<|af (nR ho) ?_,_])
 . obtain⟨h2,h3⟩:=Cp
   have hk:8-(i+1)<8:=‹a+(b+1)=8->a<8› (ay hi);have ek:8-i=8-(i+1)+1:=‹a+b=8->c+(b+1)==8->a=c+1› (ay<|bM hi) (ay hi);have e7:8-1-i=8-(i+1):=(jh i 8).symm;rw[ek] at h2 h3 |-;erw [af e7];generalize mf:8-(i+1)=k at hk ek h2 h3 |-;have ju:=qZ (v:=o) ho hk;have hb:=tL<|mt.testBit k;rw[Bw hk] at h2 h3;have hd:=nP mt k;have hh:=nP o k;erw [k1 _ (P:=decide ((0:Int)<=((k:Nat):Int))=ah) (decide_eq_true<|aD _)<|k1 _ (P:=decide ((0:Int)<=((k:Nat):Int))=ah) (decide_eq_true<|aD _) ?_,k1 _ (show rR (1+aO ((mt:Int).fdiv<|2 ^ ((k:Nat):Int).toNat) 1) 8 by rwa[af hd,ny (a:=1+iN (mt.testBit k))<|by lia])]
   refine kc _ jW (yH P .literals (σ:=τ) (j:=start+(1+aO ((mt:Int).fdiv<|2 ^ ((k:Nat):Int).toNat) 1)*2 ^ (8:Int).toNat+(km o (k+1):Nat)) (i:=start+(1+iN (mt.testBit k))*256+km o (k+1)) (b:=o.testBit k) (r:=0) (x:=aO ((o:Int).fdiv<|2 ^ ((k:Nat):Int).toNat) 1)
    (by refine af hd ?_;rfl) hh (by refine af (kh _ _ _) ?_;exact sm hs<|‹a<256->(b<2)^256->(1+b)%256+a<768› ju hb) (h2.le<|cM _)) ?_
   erw [k1 _ (mulR (a:=2) (b:=km o<|k+1)<|aZ ju<|aa rfl),V];have h4:=St.sq h2;have en:2*((km o (k+1):Nat):Int)+aO ((o:Int).fdiv<|2 ^ ((k:Nat):Int).toNat) 1=((km o k:Nat):Int):=by refine af hh<|dq (mJ hk) ?_;rfl
   refine kf _ (P:=aO ((o:Int).fdiv<|2 ^ ((k:Nat):Int).toNat) 1=aO ((mt:Int).fdiv<|2 ^ ((k:Nat):Int).toNat) 1) (λq=>?_) λq=>?_
   . refine eX ?_;intro V;rw[hd,hh] at q
     have q:=zE.mp q;rw[if_pos q] at h4 h3;refine tu.by _ (τ.run [.bit .literals (start+(1+iN (mt.testBit k))*256+km o (k+1))<|o.testBit k]) ⟨by rwa[af mf,h4],by rwa[af mf,h3]⟩ (λx=>[ae<|.ref 0,ae<|.int start,ae<|.int o,ae<|.int mt,ae<|.int x,ae<|.int k,ae<|.int<|aO ((mt:Int).fdiv<|2 ^ ((k:Nat):Int).toNat) 1,ae<|.int<|aO ((o:Int).fdiv<|2 ^ ((k:Nat):Int).toNat) 1]) en (e2:=by rwa[af mf,_])
   . refine eX ?_;intro V;rw[hd,hh] at q
     have q:¬o.testBit k=mt.testBit k:=λh=>q<|zE.mpr h;rw[if_neg q] at h4 h3
     refine kC _ Bx (YF (K:=K) (P:=P) (σ:=τ.run [.bit .literals (start+(1+iN (mt.testBit k))*256+km o (k+1))<|o.testBit k]) (start:=start) (node:=km o k) (o:=o) (c:=k) (r:=r) hP (bM hk) (by
      unfold km;have h1:o/2 ^ k<2 ^ (8-k):=hG (by rwa[dq (kx _ _ _) (af (show k+(8-k)=8 by exact‹a+b=8->b+a=8› (ay<|bM hk)) ?_),ho])
      refine af (show 9-k=8-k+1 by exact‹a+b=9->c+b==8->a=c+1› (ay<|‹a<8->a<=9› hk) (ay<|bM hk))<|af (c3 _ _) ?_;exact‹a<b->b+a<b%2› h1) hs h4) ?_ (ha:=ig (b:=[.ref 0,.int start,.int<|2*((km o (k+1):Nat):Int)+aO ((o:Int).fdiv<|2 ^ ((k:Nat):Int).toNat) 1,.int o,.int k]) (by kernel_rfl)<|by refine af en ?_;kernel_rfl)
     erw [kz _ (P:=post (.ret .none)<|p0 K P<|(τ.run [.bit .literals (start+(1+iN (mt.testBit k))*256+km o (k+1))<|o.testBit k]).run<|Am start o k)];rw[<-h3] at hz;exact hz
 . refine eX ?_;intro V;rw[cS] at Cp
   erw [kz _ (P:=post (.ret .none)<|p0 K P τ)];rw[<-Cp.2] at hz;exact hz
theorem qer{mt:Nat}(hP:P.Ok)(Af:K.st<12)(ho:o<256)(hb:bf<256)(h:σ.Ok ((Ev.bit .isMatch (K.st*16+pl%P.ps) ao::(if K.st<7 then cE .literals (768*mj P pl bf) 1 (ja o 8) else fH (768*mj P pl bf) o mt 1 8)).length+r)):
 LV 8 732 26 [.ref 0,.int K.st,.int pl,.int bf,.int o,.int mt] (p0 K P σ) (bN (.ret .none)<|p0 K P<|σ.run<|Ev.bit .isMatch (K.st*16+pl%P.ps) ao::(if K.st<7 then cE .literals (768*mj P pl bf) 1 (ja o 8) else fH (768*mj P pl bf) o mt 1 8)):=by
 have qF:=yG (pl:=pl) hP hb;erw [af St.pv];have h2:=St.sq h;refine qdF.one rfl λpost hz=>(kc _ jN (SO (P:=P) (ms:=σ.e.ms) (st:=K.st) (pl:=pl) hP)<|kc _ jW (yH P .isMatch (σ:=σ) (i:=K.st*16+pl%P.ps) (b:=ao) (r:=0) rfl rfl (zF hP Af)<|h.le<|cM _)<|kc _ jN (Yv (P:=P) (ms:=(σ.run [.bit .isMatch (K.st*16+pl%P.ps) ao]).e.ms) (pl:=pl) (b:=bf) hP hb) ?_);by_cases h7:K.st<7
 . rw[if_pos h7] at hz h2
   exact kc _ [] (Ks h7)<|kc _ Bx (YF (K:=K) (P:=P) (σ:=σ.run [.bit .isMatch (K.st*16+pl%P.ps) ao]) (start:=768*mj P pl bf) (node:=1) (o:=o) (c:=8) (r:=r) hP (aA 8) (aA _) qF h2)<|kz _ hz
 . rw[if_neg h7] at hz h2
   exact kc _ [] (Kt h7)<|kc _ Bx (qeq (K:=K) (P:=P) (σ:=σ.run [.bit .isMatch (K.st*16+pl%P.ps) ao]) (start:=768*mj P pl bf) (o:=o) (mt:=mt) (r:=r) hP ho qF h2)<|kz _ hz
theorem qes(hP:P.Ok)(h2:2<=n)(hn:n<10)(h:σ.Ok ((uK P (pl%P.ps) n).length+r)):
 LV 5 753 26 [.ref 0,.ref 16,.int pl,.int n] (p0 K P σ) (bN (.ret .none)<|p0 K P<|σ.run<|uK P (pl%P.ps) n):=by
 have hps:=hP.ps;have oy:=Dv (P:=P) (pl:=pl);have e:(n:Int)-2=((n-2:Nat):Int):=(cJ h2).symm;have hh:=St.sq h;erw [qdI.one rfl λpost hz=>?_,V,kc _ [5] (SM (lc:=P.lc) (lp:=P.lp) (pb:=P.pb) (p:=pl) hP.p),k1 _ (mulR (a:=8) (b:=pl%P.ps)<|aJ oy<|az hps<|aa rfl),ka _ (P:=(n:Int)-2<8) (‹a<10->8>a-2› hn),kc _ jW (yH P .choice (σ:=σ) (i:=0) (b:=ao) (r:=0) rfl rfl (aN _:0<2)<|h.le<|cM _)]
 refine kC _ jW (PK P .low (σ:=σ.run [.bit .choice 0 ao]) (c:=3) (v:=n-2) (start:=8*(pl%P.ps)) (r:=r) (aa rfl) (show n-2<8 by exact‹a<10->b+2=a->b<8› hn (ay h2)) (show 8*(pl%P.ps)+8<=8*P.ps by exact‹(a<b)^8->8*a+8<=8*b› oy) hh) ?_
  (ha:=ig (b:=[.ref 2,.ref 18,.int<|8*((pl%P.ps:Nat):Int),.int 3,.int<|(n:Int)-2]) (by kernel_rfl)<|by refine af e ?_;kernel_rfl)
 exact kz _ hz
theorem qet(hm:m<31\/m=4294967295)(hP:P.Ok)(h2:2<=n)(h:σ.Ok ((nQ n m).length+r)):
 LV 5 760 26 [.ref 0,.int<|(m:Int)+1,.int n] (p0 K P σ) (bN (.ret .none)<|p0 K P<|σ.run<|nQ n m):=by
 have L8:gT m<64:=by
  rcases hm with hm |rfl
  . exact aZ (gJ m hm).1<|aa rfl
  . exact aA _
 have Af:64*min (n-2) 3+2 ^ 6<=256:=Nat.add_le_add_right (dj 64<|oi (n-2) 3) 64;unfold nQ at h |-;have h3:=St.zG h;erw [qdJ.one rfl λpost hz=>?_,V];rw[St.pZ] at hz;refine kc _ [] (qd6 hm)<|kc _ jN (Yt (P:=P) (ms:=σ.e.ms) h2)<|kc _ jW (PK P .slots (σ:=σ) (c:=6) (v:=gT m) (start:=64*min (n-2) 3) (r:=0) (aa rfl) L8 Af<|St.zH h) ?_;generalize σ.run (cE .slots (64*min (n-2) 3) 1<|ja (gT m) 6)=τ at hz h3 |-;by_cases a:gT m<4
 . rw[if_pos a] at hz
   have e0:zA (gT m)=0:=if_pos a;rwa[ka _ (P:=((zA (gT m):Nat):Int)=0) (by erw [af e0];rfl),kz _ hz]
 . rw[if_neg a] at hz h3
   by_cases b:gT m<14
   . have hm:m<31:=hm.elim id λq=>by subst q;exact absurd b (nofun)
     have h4:4<=m:=a8 λq=>a (by rwa[af ((gJ m hm).2.2 q),q]);refine qba ((gJ m hm).2.1 h4) λs1 s2 s3 s4 s5 s6 s7=>?_;rw[if_pos b] at hz h3;have er:(m:Int)+1-1-((sP (gT m):Nat):Int)=((m-sP (gT m):Nat):Int):=by lia
     erw [kb _ (P:=((zA (gT m):Nat):Int)=0) (λq=>s7<|gm q),ka _ (P:=((gT m:Nat):Int)<14) (aF.mpr b),kc _ jN (Yu (P:=P) (ms:=τ.e.ms) L8 s2)]
     refine kC _ jW (PL P .special (σ:=τ) (c:=zA<|gT m) (v:=m-sP (gT m)) (start:=sP (gT m)-gT m) (r:=r) s6 s4 s5 h3) ?_
      (ha:=ig (b:=[.ref 2,.ref 13,.int ((sP (gT m)-gT m:Nat):Int),.int ((zA (gT m):Nat):Int),.int<|(m:Int)+1-1-((sP (gT m):Nat):Int)]) (by kernel_rfl)<|by refine af er ?_;kernel_rfl)
     exact kz _ hz
   . have hm:m=4294967295:=hm.elim (λq=>absurd (gJ m q).1 b) id
     rw[if_neg b] at hz h3;have e0:gT m=63:=by erw [af hm];rfl
     have e1:zA 63=30:=by rfl
     have e2:sP 63=3221225472:=by rfl
     rw[e0,e1,e2] at hz h3 |-;rw[show(30-4:Nat)=26 from rfl] at hz h3;rw[St.pZ] at hz;have h4:=St.zG h3;have e3:(m-3221225472)/2 ^ 4<2 ^ 26:=by rwa[af hm,aA _]
     have er:(m:Int)+1-1-3221225472=((m-3221225472:Nat):Int):=by erw [af hm];rfl
     have ef:((m:Int)+1-1-3221225472).fdiv (2 ^ (4:Int).toNat)=(((m-3221225472)/2 ^ 4:Nat):Int):=by rw[er];exact nO _ 4
     have eg:aO ((m:Int)+1-1-3221225472) (1*2 ^ (4:Int).toNat-1)=(((m-3221225472)%2 ^ 4:Nat):Int):=by rw[er];exact sf _ 4
     erw [kb _ (P:=((30:Nat):Int)=0) (nofun),kb _ (P:=((63:Nat):Int)<14) (nofun),k1 _ (P:=decide ((0:Int)<=4)=ah) rfl]
     refine kC _ jW (YE P (σ:=τ) (c:=26) (v:=(m-3221225472)/2 ^ 4) (r:=0) (aa rfl) e3<|St.zH h3) ?_
      (ha:=ig (b:=[.ref 2,.int 26,.int<|((m:Int)+1-1-3221225472).fdiv<|2 ^ (4:Int).toNat]) (by kernel_rfl)<|by refine af ef ?_;kernel_rfl)
     generalize τ.run ((ja ((m-3221225472)/2 ^ 4) 26).map .half)=τ2 at hz h4 |-;erw [ke _ (kX 4 (cU<|cU<|cU<|cU<|cU<|cU WU) [ae<|.ref 0,ae<|.int<|(m:Int)+1,ae<|.int n,ae<|.int (63:Nat),ae<|.int (30:Nat),ae<|.int (3221225472:Nat),ae<|.int<|(m:Int)+1-1-(3221225472:Nat)] (p0 K P τ2) post),k1 _ (ny (a:=1) (k:=4)<|aa rfl)]
     refine kC _ jW (PL P .align (σ:=τ2) (c:=4) (v:=(m-3221225472)%2 ^ 4) (start:=0) (r:=r) (aa rfl) (bA _<|aN _) (aA _:0+2 ^ 4<=16) h4) ?_
      (ha:=ig (b:=[.ref 2,.ref 14,.int 0,.int 4,.int<|aO ((m:Int)+1-1-3221225472)<|1*2 ^ (4:Int).toNat-1]) (by kernel_rfl)<|by refine af eg ?_;kernel_rfl)
     exact kz _ hz
theorem YG(hm:m<31\/m=4294967295)(hP:P.Ok)(Af:K.st<12)(h2:2<=n)(hn:n<10)(h:σ.Ok ((Ev.bit .isMatch (K.st*16+pl%P.ps) ah:: .bit .jg K.st ao::qj P pl n m).length+r)):
 LV 6 767 26 [.ref 0,.int K.st,.int pl,.int<|(m:Int)+1,.int n] (p0 K P σ) (bN (.ret .none)<|p0 K P<|σ.run<|Ev.bit .isMatch (K.st*16+pl%P.ps) ah:: .bit .jg K.st ao::qj P pl n m):=by
 refine af St.pv<|af St.pv ?_;have h3:=St.sq h;have h4:=St.sq h3;unfold qj at h4 |-;rwa[af St.pZ<|qdK.one rfl λpost hz=>?_,V,kc _ jN (SO (P:=P) (ms:=σ.e.ms) (st:=K.st) (pl:=pl) hP),kc _ jW (yH P .isMatch (σ:=σ) (i:=K.st*16+pl%P.ps) (b:=ah) (r:=0) rfl rfl (zF hP Af)<|h.le<|cM _)<|kc _ jW (yH P .jg (σ:=σ.run [.bit .isMatch (K.st*16+pl%P.ps) ah]) (i:=K.st) (b:=ao) (r:=0) rfl rfl Af<|h3.le<|cM _)<|kc _ Bx (qes (K:=K) (P:=P) (σ:=(σ.run [.bit .isMatch (K.st*16+pl%P.ps) ah]).run [.bit .jg K.st ao]) (pl:=pl) (n:=n) (r:=0) hP h2 hn<|St.zH h4)<|kc _ Bx (qet (K:=K) (P:=P) (σ:=((σ.run [.bit .isMatch (K.st*16+pl%P.ps) ah]).run [.bit .jg K.st ao]).run<|uK P (pl%P.ps) n) (n:=n) (m:=m) (r:=r) hm hP h2<|St.zG h4)<|kz _ hz]
end
section
variable{K:Pk}
theorem LV.op(k:LV n f 6 args (HL K P D) (bN r<|HL K' P D'))(hr:r.cl (λk=>iu k 6)=ah):LV n f 6 args (eU K P D) (bN r<|eU K' P D'):=
 LV.oc 1 368 (o:=Fh 1 2 12 17) (os:=m1<|g8 0 P D.ms) (o':=Fh 1 2 12 17) (os':=m1<|g8 0 P D'.ms) k (e3:=by
   show(_&&_&&r.cl (λk=>iu k 6)&&_)=ah
   refine af hr ?_;kernel_rfl)
theorem YH(hP:P.Ok)(hK:K.Ok)(hs:s.Ok K.st K.r0 K.w)(hD:D.Ok (qk P K.st K.w K.r0 s++todo)):
 LV 8 564 6 [.ref 0,.ref 5] (HL K P D) (bN (.ret s.av)<|HL (K.nx s) P<|D.add<|qk P K.st K.w K.r0 s):=by
 have oy:=hK.pl;have xg:=zF (pl:=K.pl) hP hK.st;refine qdx.one rfl λpost hz=>(kc _ jM (SO (P:=P) (ms:=D.ms) (st:=K.st) (pl:=K.pl) hP) ?_)
 cases s with
 |lit o=>
  rw[qk, <-oy] at hD hz;rw[<-cj, <-Dc.eC] at hz;exact kc _ jD (sk P .isMatch (i:=K.st*16+K.pl%P.ps) (b:=ao) rfl xg hD)<|ka _ (P:=((iN ao:Nat):Int)=0) rfl<|kc _ YB (qep (K:=K) (P:=P) (D:=D.add [_]) (o:=o) hP hK hs<|Dc.Ok.step (l:=[_]) hD)<|kz _ hz
 |mat d n=>
  rw[qk, <-oy] at hD hz;rw[<-cj, <-cj (l:=qj _ _ _ _), <-Dc.eC, <-Dc.eC] at hz;erw [nn λzn=>?_,lE hs λaH h4 h5=>?_,-hs,lE aH λh1 h2 h3=>?_,zn,-zn,-aH];have hD2:=Dc.Ok.step (l:=[_]) hD;refine kc _ jD (sk P .isMatch (i:=K.st*16+K.pl%P.ps) (b:=ah) rfl xg hD) (kb _ (P:=((iN ah:Nat):Int)=0) (by decide)<|kc _ jD (sk P .jg (D:=D.add [_]) (i:=K.st) (b:=ao) rfl hK.st hD2)<|ka _ (P:=((iN ao:Nat):Int)=0) rfl ?_);have key:=YD (K:=K) (P:=P) (D:=(D.add [_]).add [_]) (n:=n) (m:=d-1) hP h4 (aZ h5<|by decide) hK.w (.inl<|⟨‹a<32->b+1=a->b<31› h3 (ay h1),‹a<=b->c+1=a->c+1<=b› h2 (ay h1)⟩)<|Dc.Ok.step (l:=[_]) hD2;rw[if_neg (by exact λzq=>‹a<32->b<=a->b==4294967295->(0==0)^4294967264› h3 (dk _ _) zq),if_neg (by exact λzq=>‹a<32->b<=a->b==4294967295->(0==0)^4294967264› h3 (dk _ _) zq),ay h1] at key;exact kc _ YB key<|kz _ hz
 |fin=>
  rw[qk, <-oy] at hD hz;rw[<-cj, <-cj (l:=qj _ _ _ _), <-Dc.eC, <-Dc.eC] at hz;have hD2:=Dc.Ok.step (l:=[_]) hD;refine kc _ jD (sk P .isMatch (i:=K.st*16+K.pl%P.ps) (b:=ah) rfl xg hD) (kb _ (P:=((iN ah:Nat):Int)=0) (by decide)<|kc _ jD (sk P .jg (D:=D.add [_]) (i:=K.st) (b:=ao) rfl hK.st hD2)<|ka _ (P:=((iN ao:Nat):Int)=0) rfl ?_);have key:=YD (K:=K) (P:=P) (D:=(D.add [_]).add [_]) (n:=2) (m:=4294967295) hP (aA 2) (by decide) hK.w (.inr rfl)<|Dc.Ok.step (l:=[_]) hD2;rw[if_pos rfl,if_pos rfl] at key;exact kc _ YB key<|kz _ hz
theorem sr(hP:P.Ok)(hK:K.Ok)(hs:s.Ok K.st K.r0 K.w)(hD:D.Ok (qk P K.st K.w K.r0 s++todo)):
 LV 8 564 6 [.ref 0,.ref 5] (eU K P D) (bN (.ret s.av)<|eU (K.nx s) P<|D.add<|qk P K.st K.w K.r0 s):=LV.op (YH hP hK hs hD) (by cases s<;>rfl)
end
noncomputable def bZ.len:bZ->Nat
 |.lit _=>1
 |.mat _ n=>n
 |.fin=>0
def bZ.oc(w:List UInt8):bZ->List UInt8
 |.lit o=>[bz o]
 |.mat d n=>jG w d n
 |.fin=>[]
def Pk.pd(K:Pk)(s:bZ):Pk:={K with pl:=K.pl+s.len,w:=K.w++s.oc K.w}
def Pk.go(K:Pk)(s:bZ):Pk:=(K.nx s).pd s
def Pk.fit(K:Pk)(n:Nat):Prop:=match K.mo with |none=>True |some m=>K.pl+n<=m
section
variable{K:Pk}
theorem wN(h:K.rs=0):LV 1 635 5 [.ref 0] (K.o P ms) (bN (.ret .none)<|K.o P ms):=by
 rwa[qdA.one rfl λpost hz=>?_,kb _ (P:=(0:Int)<K.rs) (by erw [af h];decide)<|kz _ hz]
theorem Kv(h:K.pY=ao):LV 1 515 5 [.ref 0] (K.o P ms) (bN (.ret .none)<|K.o P ms):=by
 obtain⟨mo,pl,st,mk,rs,w,r0,r1,r2,r3⟩:=K;rwa[!h,Xo.one rfl λpost hz=>kz _ hz]
theorem By(h:K.pY=ah):LV 9 515 5 [.ref 0] (K.o P ms) (bN (.exc 100)<|K.o P ms):=by
 obtain⟨mo,pl,st,mk,rs,w,r0,r1,r2,r3⟩:=K;rwa[!h,Xo.one rfl λpost hz=>kz _ hz]
theorem SR(h:K.fit n):LV 1 529 5 [.ref 0,.int n] (K.o P ms) (bN (.ret .none)<|K.o P ms):=by
 obtain⟨mo,pl,st,mk,rs,w,r0,r1,r2,r3⟩:=K;refine Xp.one rfl λpost hz=>?_
 cases mo with
 |none=>exact kz _ hz
 |some m=>
  have h:pl+n<=m:=h;exact kb _ (P:=(m:Int)<(pl:Int)+n) (bO.mpr<|‹a+b<=c->c>=a+b› h)<|kz _ hz
theorem xJ(h:a=b)(g:b+n<57):a+n<57:=h▸g
theorem PM{i:Int}(h0:0<=i)(h:i<57):i.natAbs.log2<1920:=a7 (Nat.log2_le_self _) (by lia)
theorem Kx(h:¬K.fit n)(hb:K.pl+n<57):LV 9 529 5 [.ref 0,.int n] (K.o P ms) (bN (.exc 138)<|K.o P ms):=by
 obtain⟨mo,pl,st,mk,rs,w,r0,r1,r2,r3⟩:=K;refine Xp.one rfl λpost hz=>?_
 cases mo with
 |none=>exact absurd trivial h
 |some m=>
  have h:¬pl+n<=m:=h;have hb:pl+n<57:=hb;exact ka _ (P:=(m:Int)<(pl:Int)+n) (‹a<b+c->b+c>a› (xa h))<|k1 _ (P:=((pl:Int)+n).natAbs.log2<1920/\((m:Nat):Int).natAbs.log2<1920) ⟨PM (‹a+b>=0›)<|‹a+b<57->57>a+b› hb,PM (‹a>=0›)<|‹a<b+c->b+c<57->57>a› (xa h) hb⟩<|kz _ hz
theorem Bz{s:bZ}:LV 1 465 0 [s.av] [] (bN (.ret<|.int s.len) []):=by
 cases s with
 |lit o=>exact Sy.one rfl λpost hz=>kz _ hz
 |mat d n=>exact Sy.one rfl λpost hz=>kz _ hz
 |fin=>exact Sy.one rfl λpost hz=>kz _ hz
def bZ.Pl(K:Pk):bZ->Prop
 |.lit o=>o<256/\K.w.length<63
 |.mat d n=>K.r0=d/\1<=d/\d<=K.w.length/\K.w.length+n<63
 |.fin=>False
theorem zI(hs:s.Pl K)(h:K.fit s.len):LV 9 571 5 [.ref 0,s.av] (K.o P ms) (bN (.ret<|.bytes<|s.oc K.w)<|(K.pd s).o P ms):=by
 cases s with
 |lit o=>
  erw [aT hs λho hw=>?_,-hs,LV.pick (h1:=(K.pd<|.lit o).o P ms++[.lst [.int o]]) (r:=.ret<|.bytes [bz o]) [5] [0,1,2,3,4]<|NK.one rfl λpost hz=>?_,V,kc _ [] (Bz (s:=.lit o)),kc _ [0,1,2,3,4] (SR (K:=K) (P:=P) (ms:=ms) (n:=1) h)<|kc _ [2,3] (Yo (w:=K.w) (o:=o) rfl hw ho)<|k1 _ (P:=(0:Int)<=o/\(o:Int)<256) ⟨aD _,aF.mpr ho⟩ ?_]
  refine kz _ (P:=post (.ret<|.bytes [bz o])<|[.inst 673 [ae<|.ref 1,ae<|.ref 2,ae<|YA K.mo,ae<|.int (K.pl+1:Nat),ae<|.int K.st,ae<|.ref 4,ae<|.bool K.pY,ae<|.int K.rs],Al P ms,
   .inst 1000 [ae<|.int 64,ae<|.int (K.w++[bz o]).length,ae<|.ref 3,ae<|.int (K.w++[bz o]).length],.ba<|K.w++[bz o],Cj K.r0 K.r1 K.r2 K.r3,.lst [.int o]]) ?_
  exact hz
 |mat d n=>
  rwa[QE hs λhd h1 h2 hw=>?_,-hs,NK.one rfl λpost hz=>?_,V,kc _ [] (Bz (s:=.mat d n)),kc _ [0,1,2,3,4] (SR (K:=K) (P:=P) (ms:=ms) (n:=n) h)<|kc _ [4] (Kp (a:=K.r0) (b:=K.r1) (c:=K.r2) (d:=K.r3))<|af hd<|kc _ [2,3] (Yq (w:=K.w) (d:=d) (n:=n) hw h1 h2) ?_,V,!hd,kz _ hz]
 |fin=>exact hs.elim
theorem su{s:bZ}(hf:s≠ .fin)(h:¬K.fit s.len)(hb:K.pl+s.len<57):LV 11 571 5 [.ref 0,s.av] (K.o P ms) (bN (.exc 138)<|K.o P ms):=by
 cases s with
 |lit o=>
  rwa[NK.one rfl λpost hz=>?_,V,kc _ [] (Bz (s:=.lit o)),kc _ [0,1,2,3,4] (Kx (K:=K) (P:=P) (ms:=ms) (n:=1) h hb)<|kz _ hz]
 |mat d n=>
  rwa[NK.one rfl λpost hz=>?_,V,kc _ [] (Bz (s:=.mat d n)),kc _ [0,1,2,3,4] (Kx (K:=K) (P:=P) (ms:=ms) (n:=n) h hb)<|kz _ hz]
 |fin=>exact absurd rfl hf
noncomputable def wO(o:Option Nat):AV:=match o with |none=>.none |some n=>.int n
theorem G7(h:sz=aq->b=ah):LV 1 585 5 [.ref 0,wO sz,.bool b] (K.o P ms) (bN (.ret .none)<|K.o P ms):=by
 cases sz with
 |none=>cases h rfl;exact Xq.one rfl λpost hz=>kz _ hz
 |some n=>exact Xq.one rfl λpost hz=>kb _ (P:=(n:Int)<0) (bO.mpr<|aD _)<|kz _ hz
noncomputable def Pk.end(K:Pk):Pk:={K with pY:=ah}
theorem BB{s:bZ}(hf:s≠ .fin)(h:∀n,sz=ae n->made+s.len<=n):LV 2 592 5 [.ref 0,s.av,wO sz,.int made] (K.o P ms) (bN (.ret<|.bool ao)<|K.o P ms):=by
 cases sz with
 |none=>cases s with
  |lit o=>exact Ke.one rfl λpost hz=>kz _ hz
  |mat d n=>exact Ke.one rfl λpost hz=>kz _ hz
  |fin=>exact absurd rfl hf
 |some m=>
  have h:=h m rfl
  cases s with
  |lit o=>exact Ke.one rfl λpost hz=>kc _ [] (Bz (s:=.lit o)) (kb _ (P:=(m:Int)<(made:Int)+(1:Nat)) (by have:made+1<=m:=h;exact bO.mpr<|‹a+1<=b->b>=a+1› this)<|kz _ hz)
  |mat d n=>exact Ke.one rfl λpost hz=>kc _ [] (Bz (s:=.mat d n)) (kb _ (P:=(m:Int)<(made:Int)+(n:Nat)) (by have:made+n<=m:=h;exact bO.mpr<|‹a+b<=c->c>=a+b› this)<|kz _ hz)
  |fin=>exact absurd rfl hf
theorem PN{made:Nat}:LV 2 592 5 [.ref 0,bZ.fin.av,.none,.int made] (K.o P ms) (bN (.ret<|.bool ah)<|K.end.o P ms):=
 Ke.one rfl λpost hz=>kz _ hz
end
def Pk.goes(K:Pk)(l:List bZ):Pk:=l.foldl Pk.go K
def aP(K:Pk):List bZ->List UInt8
 |[]=>[]
 |s::l=>s.oc K.w++aP (K.go s) l
def tvs(P:Pr)(K:Pk):List bZ->List Ev
 |[]=>[]
 |s::l=>qk P K.st K.w K.r0 s++tvs P (K.go s) l
theorem YI{K}:tvs P K []=[]:=rfl
theorem BC{K}:tvs P K (s::l)=qk P K.st K.w K.r0 s++tvs P (K.go s) l:=rfl
def Pk.sE(K:Pk)(P:Pr)(s:bZ):List Ev:=qk P K.st K.w K.r0 s
def xh(K:Pk):List bZ->Prop
 |[]=>True
 |s::l=>(s≠ .fin/\s.Ok K.st K.r0 K.w)/\xh (K.go s) l
theorem PO{K}:xh K (s::l)=((s≠ .fin/\s.Ok K.st K.r0 K.w)/\xh (K.go s) l):=rfl
def uL(K:Pk):List bZ->Prop
 |[]=>True
 |s::l=>K.fit s.len/\uL (K.go s) l
section
variable{K:Pk}
theorem BD:K.goes (l++m)=(K.goes l).goes m:=fE
theorem dY:K.goes (l++[s])=(K.goes l).go s:=BD
theorem fu:∀{l:List bZ} {K:Pk},aP K (l++m)=aP K l++aP (K.goes l) m
 |[],K=>rfl
 |s::l,K=>by rw[f7,aP,fu,aP,ax];rfl
theorem dZ:aP K (l++[s])=aP K l++s.oc (K.goes l).w:=by rw[fu,aP,aP,bD]
theorem vo:∀{l:List bZ} {K:Pk},tvs P K (l++m)=tvs P K l++tvs P (K.goes l) m
 |[],K=>rfl
 |s::l,K=>by rw[f7,tvs,vo,tvs,ax];rfl
theorem BE:tvs P K (l++[s])=tvs P K l++(K.goes l).sE P s:=by refine af vo<|af BC<|af YI<|af (bD _) ?_;rfl
theorem nA:∀{l:List bZ} {K:Pk},xh K (l++m)↔xh K l/\xh (K.goes l) m
 |[],K=>⟨λh=>⟨trivial,h⟩,qfl⟩
 |s::l,K=>⟨λh=>⟨⟨h.1,(nA.mp h.2).1⟩,(nA.mp h.2).2⟩,λh=>⟨h.1.1,nA.mpr ⟨h.1.2,h.2⟩⟩⟩
theorem vp:∀{l:List bZ} {K:Pk},uL K (l++m)↔uL K l/\uL (K.goes l) m
 |[],K=>⟨λh=>⟨trivial,h⟩,qfl⟩
 |s::l,K=>⟨λh=>⟨⟨h.1,(vp.mp h.2).1⟩,(vp.mp h.2).2⟩,λh=>⟨h.1.1,vp.mpr ⟨h.1.2,h.2⟩⟩⟩
theorem gu(h:uL K l)(h2:(K.goes l).fit s.len):uL K (l++[s]):=vp.mpr ⟨h,h2,trivial⟩
theorem SU:(K.go s).w=K.w++s.oc K.w:=by cases s<;>rfl
theorem q9:∀{l:List bZ} {K:Pk},(K.goes l).w=K.w++aP K l
 |[],K=>(bD _).symm
 |s::l,K=>by
  show((K.go s).goes l).w=_;rw[q9,SU,ax];rfl
theorem fN{s:bZ}:(s.oc w).length=s.len:=by
 cases s with
 |lit o=>rfl
 |mat d n=>exact pX
 |fin=>rfl
theorem YJ(h:n<12):aL n<12:=by
 unfold aL
 split
 . exact aN _
 . split<;>(exact‹a<12->b<=a->b<12› h (dk _ _))
theorem YK:aM n<12:=by unfold aM;split<;>(exact aa rfl)
theorem SW:(K.go s).pY=K.pY:=by cases s<;>rfl
theorem YL:(K.go s).rs=K.rs:=by cases s<;>rfl
theorem PQ:(K.go s).mo=K.mo:=by cases s<;>rfl
theorem sv:∀{l:List bZ} {K:Pk},(K.goes l).pY=K.pY
 |[],K=>rfl
 |s::l,K=>(sv (l:=l) (K:=K.go s)).trans SW
theorem vq:∀{l:List bZ} {K:Pk},(K.goes l).rs=K.rs
 |[],K=>rfl
 |s::l,K=>(vq (l:=l) (K:=K.go s)).trans YL
structure Pk.PR(K:Pk):Prop where
 pl:K.pl=K.w.length
 st:K.st<12
theorem YM(h:K.PR):(K.go s).PR:=by
 obtain⟨h1,h2⟩:=h;refine⟨?_,?_⟩
 . refine af SU<|af aj<|af fN<|dq h1 ?_;cases s<;>rfl
 . cases s<;>first |exact YJ h2 |exact YK
theorem sx:∀{l:List bZ} {K:Pk},K.PR->(K.goes l).PR
 |[],K,h=>h
 |s::l,K,h=>sx (l:=l)<|YM h
end
structure Txt(K:Pk)(l:List bZ):Prop where
 ok:K.PR
 s:xh K l
 len:K.w.length+(aP K l).length<57
section
variable{K:Pk}{P:Pr}{l pre:List bZ}{s:bZ}
theorem Txt.at(h:Txt K (pre++s::l)):(K.goes pre).Ok/\s.Ok (K.goes pre).st (K.goes pre).r0 (K.goes pre).w/\s≠ .fin/\(K.goes pre).w.length+s.len<57:=by
 have h1:=(nA.mp h.s).2.1;have h2:=h.len;rw[fu,aP,aj,aj,fN] at h2;have h3:(K.goes pre).w.length=K.w.length+(aP K pre).length:=by rw[q9,aj]
 have h4:=sx (l:=pre) h.ok;exact⟨⟨h4.pl,h4.st,by omega⟩,h1.2,h1.1,by omega⟩
theorem Txt.end(h:Txt K l):(K.goes l).Ok:=by
 have h3:(K.goes l).w.length=K.w.length+(aP K l).length:=af q9<|af aj rfl;have h4:=sx (l:=l) h.ok;exact⟨h4.pl,h4.st,by rwa[af h3,h.len]⟩
theorem bZ.Ok.pl{K:Pk}(h:s.Ok K.st K.r0 K.w)(hf:s≠ .fin)(hw:K.w.length+s.len<57):s.Pl (K.nx s):=by
 cases s with
 |lit o=>exact⟨h.1,a7 (aU _ _)<|aZ hw<|by decide⟩
 |mat d n=>exact⟨rfl,h.1.1,h.1.2.1,aZ hw<|by decide⟩
 |fin=>exact absurd rfl hf
def zJ(P:Pr)(K:Pk)(b:Bool):List Ev:=match b with |true=>K.sE P .fin |false=>[]
structure Pk.Rd(K:Pk)(P:Pr)(D:Dc)(l:List bZ)(b:Bool):Prop where
 p:P.Ok
 t:Txt K l
 d:∃ex,D.Ok<|tvs P K l++(zJ P (K.goes l) b++ex)
def Pk.dt(K:Pk)(P:Pr)(D:Dc)(pre:List bZ):Dc:=D.add<|tvs P K pre
theorem Pk.Rd.at(h:K.Rd P D (pre++s::l) b):∃rest,(K.dt P D pre).Ok ((K.goes pre).sE P s++rest):=by
 obtain⟨ex,h1⟩:=h.d;rw[vo,ax,BC,ax] at h1;exact⟨_,Dc.Ok.step h1⟩
theorem Pk.jw:(K.dt P D pre).add ((K.goes pre).sE P s)=K.dt P D (pre++[s]):=by
 unfold Pk.dt;exact af Dc.eC<|af BE rfl
def yI(K:Pk)(l:List bZ)(K':Pk):Prop:=∃pre s m,l=pre++s::m/\uL K pre/\¬(K.goes pre).fit s.len/\K'.pl=(K.goes pre).pl/\K'.w=(K.goes pre).w
def Pk.fi(K:Pk)(l:List bZ)(b:Bool):Pk:=match b with |true=>((K.goes l).nx .fin).end |false=>K.goes l
def Pk.dE(K:Pk)(P:Pr)(D:Dc)(l:List bZ)(b:Bool):Dc:=match b with |true=>(K.dt P D l).add ((K.goes l).sE P .fin) |false=>K.dt P D l
def TQ(K:Pk)(P:Pr)(D:Dc)(l:List bZ)(b:Bool)(r:AR)(K':Pk)(D':Dc):Prop:=
 (uL K l/\r= .ret (.bytes<|aP K l)/\K'=K.fi l b/\D'=K.dE P D l b)\/(yI K l K'/\r= .exc 138)
def pE(K:Pk)(P:Pr)(D:Dc)(l:List bZ)(b:Bool)(r:AR)(h:List AO):Prop:=∃K' D' g,h=eU K' P D'++g/\TQ K P D l b r K' D'
def N0(K:Pk)(P:Pr)(D:Dc)(l:List bZ)(b:Bool)(r:AR)(h:List AO):Prop:=∃K' D',h=eU K' P D'/\TQ K P D l b r K' D'
theorem TQ.cl(h:TQ K P D l b r K' D')(c:Nat->Bool):r.cl c=ah:=by
 rcases h with⟨-,rfl,-⟩ |⟨-,rfl⟩<;>rfl
theorem LV.tell{hp}(k:LV n f 6 args hp (pE K P D l b)):LV n f 6 args hp (N0 K P D l b):=
 k.weak λr h q=>by
   obtain⟨K',D',g,rfl,q⟩:=q;exact⟨6,eU K' P D',aA 6,q.cl _,qi.gc (h0:=eU K' P D') rfl<|aA 6,by rwa[af aj,aU 6 _],K',D',rfl,q⟩
theorem Dk.gen(h:Dk f k r is)(e:args.length=k)(hw:(kX n is (args.map ae++aS r aq) hp post).G):LV (n+1) f m args hp post:=h.enter e hw.h
end
section
variable{K:Pk}{P:Pr}{D:Dc}
theorem p8(h:Txt K l):(aP K l).length<57:=a7 (dG _ _) h.len
theorem bZ.Ok.pos{s:bZ}{st}(h:s.Ok st r0 w)(hf:s≠ .fin):0<s.len:=by
 cases s with
 |lit o=>exact Nat.one_pos
 |mat d n=>exact aJ (aN _) h.2.1
 |fin=>exact absurd rfl hf
noncomputable def j6:List Nat:=[0,1,2,3,4,5]
noncomputable def j5:List Nat:=[0,1,2,3,4]
structure Turn(K:Pk)(P:Pr)(D:Dc)(pre:List bZ)(s:bZ)(m:List bZ)(b:Bool):Prop where
 ok:(K.goes pre).Ok
 so:s.Ok (K.goes pre).st (K.goes pre).r0 (K.goes pre).w
 nf:s≠ .fin
 w:(K.goes pre).w.length+s.len<57
 d:∃rest,(K.dt P D pre).Ok<|(K.goes pre).sE P s++rest
theorem Pk.Rd.turn(h:K.Rd P D (pre++s::m) b):Turn K P D pre s m b:=
 let⟨a,c,d,e⟩:=h.t.at
 ⟨a,c,d,e,h.at⟩
theorem YN(hr:K.rs=0)(hm:K.pY=ao)(h:K.Rd P D l ah):LV 14 578 6 [.ref 0,.ref 5,.none,.bool ah] (eU K P D) (N0 K P D l ah):=by
 have hz:=p8 h.t;erw [LV.tell<|NL.gen rfl ?_,V,kc _ j5 (wN (K:=K) (P:=P) (ms:=D.ms) hr),kc _ j5 (G7 (K:=K) (P:=P) (ms:=D.ms) (sz:=aq) (b:=ah) λz=>rfl),V,kc _ j5 (Kv (K:=K) (P:=P) (ms:=D.ms) hm)]
 refine kw _ (λ(pre:List bZ) n=>uL K pre/\∃m,l=pre++m/\n=m.length+1) (λpre n=>[ae<|.ref 0,ae<|.ref 5,ae .none,ae<|.bool ah,ae<|.ref 6,aq]) (λpre n=>eU (K.goes pre) P (K.dt P D pre)++[.ba<|aP K pre]) [] (l.length+1) ⟨trivial,l,rfl,rfl⟩ (λn pre hs tu=>?_)
  (hh:=by rwa[af (show K.dt P D []=D from Dc.add_nil),_])
 erw [V,nn λzn=>?_,aT hs λhf aH=>?_,-hs,aK aH λm hl hn=>?_,zn,-zn,-aH]
 have Dw:(aP K pre).length<=1000000:=by
  rw[hl,fu,aj] at hz;exact‹a+b<57->a<=1000000› hz
 cases m with
 |nil=>
  rw[bD] at hl;subst hl;have hE:=h.t.end;refine c4 h.d λex hd=>?_;have hd:(K.dt P D l).Ok ((K.goes l).sE P .fin++ex):=Dc.Ok.step hd;rwa[kc _ j6 (sr (K:=K.goes l) (D:=K.dt P D l) (s:=.fin) h.p hE trivial hd),k1 _ Dw,kc _ j5 (PN (K:=(K.goes l).nx .fin) (P:=P) (ms:=((K.dt P D l).add<|(K.goes l).sE P .fin).ms) (made:=(aP K l).length)),k1 _ Dw,kz _ (P:=pE K P D l ah (.ret<|.bytes<|aP K l)<|eU ((K.goes l).nx .fin).end P ((K.dt P D l).add<|(K.goes l).sE P .fin)++[.ba<|aP K l]),⟨_,_,[.ba<|aP K l],rfl,.inl<|mT hf rfl rfl rfl⟩]
 |cons s m=>
  rw[hl] at h;have ON:(aP K pre).length+s.len<=1000000:=by rw[hl,fu,aP,aj,aj,fN] at hz;exact‹a+(b+c)<57->a+b<=1000000› hz
  refine nn λzn=>?_;obtain⟨t1,t2,t3,t4,rest,t5⟩:=h.turn
  cases s with
  |lit o=>
   erw [zn,-zn,kc _ j6 (sr (K:=K.goes pre) (D:=K.dt P D pre) (s:=(.lit o)) h.p t1 t2 t5),k1 _ Dw,kc _ j5 (BB (K:=(K.goes pre).nx<|.lit o) (P:=P) (ms:=((K.dt P D pre).add<|(K.goes pre).sE P<|.lit o).ms) (sz:=aq) (made:=(aP K pre).length) t3 λn e=>nomatch e),V];by_cases j8:(K.goes pre).fit (bZ.len<|.lit o)
   . refine eX ?_;intro V;refine kc _ j5 (zI (K:=(K.goes pre).nx<|.lit o) (P:=P) (ms:=((K.dt P D pre).add<|(K.goes pre).sE P<|.lit o).ms) (s:=(.lit o)) (bZ.Ok.pl t2 t3 t4) j8) ?_
     erw [k1 _ (P:=(aP K pre).length+(bZ.oc ((K.goes pre).nx<|.lit o).w<|.lit o).length<=1000000) (by rwa[af fN,ON])];exact tu.at _ (pre++[(.lit o)]) (m.length+1) (hn▸bH _) ⟨gu hf j8,m,by refine af hl<|af (ax _ _ _) ?_;rfl,rfl⟩ (hh:=by rwa[af dY<|dq Pk.jw<|af dZ ?_,_])
   . refine eX ?_;intro V;refine kc _ j5 (su (K:=(K.goes pre).nx<|.lit o) (P:=P) (ms:=((K.dt P D pre).add<|(K.goes pre).sE P<|.lit o).ms) (s:=(.lit o)) t3 j8<|xJ t1.pl t4) ?_
     rwa[kz _ (P:=pE K P D l ah (.exc 138)<|eU ((K.goes pre).nx<|.lit o) P ((K.dt P D pre).add<|(K.goes pre).sE P<|.lit o)++[.ba<|aP K pre]),⟨_,_,[.ba<|aP K pre],rfl,.inr ⟨⟨pre,(.lit o),m,hl,hf,j8,rfl,rfl⟩,rfl⟩⟩]
  |mat d n'=>
   erw [zn,-zn,kc _ j6 (sr (K:=K.goes pre) (D:=K.dt P D pre) (s:=(.mat d n')) h.p t1 t2 t5),k1 _ Dw,kc _ j5 (BB (K:=(K.goes pre).nx<|.mat d n') (P:=P) (ms:=((K.dt P D pre).add<|(K.goes pre).sE P<|.mat d n').ms) (sz:=aq) (made:=(aP K pre).length) t3 λn e=>nomatch e),V];by_cases j8:(K.goes pre).fit (bZ.len<|.mat d n')
   . refine eX ?_;intro V;refine kc _ j5 (zI (K:=(K.goes pre).nx<|.mat d n') (P:=P) (ms:=((K.dt P D pre).add<|(K.goes pre).sE P<|.mat d n').ms) (s:=(.mat d n')) (bZ.Ok.pl t2 t3 t4) j8) ?_
     erw [k1 _ (P:=(aP K pre).length+(bZ.oc ((K.goes pre).nx<|.mat d n').w<|.mat d n').length<=1000000) (by rwa[af fN,ON])];exact tu.at _ (pre++[(.mat d n')]) (m.length+1) (hn▸bH _) ⟨gu hf j8,m,by refine af hl<|af (ax _ _ _) ?_;rfl,rfl⟩ (hh:=by rwa[af dY<|dq Pk.jw<|af dZ ?_,_])
   . refine eX ?_;intro V;refine kc _ j5 (su (K:=(K.goes pre).nx<|.mat d n') (P:=P) (ms:=((K.dt P D pre).add<|(K.goes pre).sE P<|.mat d n').ms) (s:=(.mat d n')) t3 j8<|xJ t1.pl t4) ?_
     rwa[kz _ (P:=pE K P D l ah (.exc 138)<|eU ((K.goes pre).nx<|.mat d n') P ((K.dt P D pre).add<|(K.goes pre).sE P<|.mat d n')++[.ba<|aP K pre]),⟨_,_,[.ba<|aP K pre],rfl,.inr ⟨⟨pre,(.mat d n'),m,hl,hf,j8,rfl,rfl⟩,rfl⟩⟩]
  |fin=>rwa[zn,-zn,absurd rfl t3]
theorem Ky(hr:K.rs=0)(hm:K.pY=ao)(h:K.Rd P D l ao):LV 14 578 6 [.ref 0,.ref 5,.int (aP K l).length,.bool ao] (eU K P D) (N0 K P D l ao):=by
 have hz:=p8 h.t;erw [LV.tell<|NL.gen rfl ?_,V,kc _ j5 (wN (K:=K) (P:=P) (ms:=D.ms) hr),kc _ j5 (G7 (K:=K) (P:=P) (ms:=D.ms) (sz:=ae (aP K l).length) (b:=ao) λe=>nomatch e),V,kc _ j5 (Kv (K:=K) (P:=P) (ms:=D.ms) hm)]
 refine kw _ (λ(pre:List bZ) n=>uL K pre/\∃m,l=pre++m/\n=m.length) (λpre n=>[ae<|.ref 0,ae<|.ref 5,ae<|.int (aP K l).length,ae<|.bool ao,ae<|.ref 6,aq]) (λpre n=>eU (K.goes pre) P (K.dt P D pre)++[.ba<|aP K pre]) [] l.length ⟨trivial,l,rfl,rfl⟩ (λn pre hs tu=>?_)
  (hh:=by rwa[af (show K.dt P D []=D from Dc.add_nil),_])
 erw [V,nn λzn=>?_,aT hs λhf aH=>?_,-hs,aK aH λm hl hn=>?_,zn,-zn,-aH]
 have Dw:(aP K pre).length<=1000000:=by
  rw[hl,fu,aj] at hz;exact‹a+b<57->a<=1000000› hz
 erw [k1 _ Dw]
 cases m with
 |nil=>
  erw [V];rw[bD] at hl;rwa[!hl,kb _ (P:=((aP K l).length:Int)<(aP K l).length) (B0 _),k1 _ Dw,kz _ (P:=pE K P D l ao (.ret<|.bytes<|aP K l)<|eU (K.goes l) P (K.dt P D l)++[.ba<|aP K l]),⟨_,_,[.ba<|aP K l],rfl,.inl<|mT hf rfl rfl rfl⟩]
 |cons s m=>
  erw [V];rw[hl] at h;have nZ:(aP K pre).length+s.len<=(aP K l).length:=by rw[hl,fu,aP,aj,aj,fN];exact‹a+b<=a+(b+c)›
  obtain⟨t1,t2,t3,t4,rest,t5⟩:=h.turn;have ON:(aP K pre).length+s.len<=1000000:=‹a<57->b+c<=a->b+c<=1000000› hz nZ;have uV:=t2.pos t3;erw [ka _ (P:=((aP K pre).length:Int)<(aP K l).length) (aF.mpr<|‹a+b<=c->0<b->a<c› nZ uV)]
  cases s with
  |lit o=>
   erw [V,kc _ j6 (sr (K:=K.goes pre) (D:=K.dt P D pre) (s:=(.lit o)) h.p t1 t2 t5),k1 _ Dw,kc _ j5 (BB (K:=(K.goes pre).nx<|.lit o) (P:=P) (ms:=((K.dt P D pre).add<|(K.goes pre).sE P<|.lit o).ms) (sz:=ae (aP K l).length) (made:=(aP K pre).length) t3 λn e=>by(injection e with e;subst e);exact nZ),V];by_cases j8:(K.goes pre).fit (bZ.len<|.lit o)
   . refine eX ?_;intro V;refine kc _ j5 (zI (K:=(K.goes pre).nx<|.lit o) (P:=P) (ms:=((K.dt P D pre).add<|(K.goes pre).sE P<|.lit o).ms) (s:=(.lit o)) (bZ.Ok.pl t2 t3 t4) j8) ?_
     erw [k1 _ (P:=(aP K pre).length+(bZ.oc ((K.goes pre).nx<|.lit o).w<|.lit o).length<=1000000) (by rwa[af fN,‹a<57->b+c<=a->b+c<=1000000› hz nZ])];exact tu.at _ (pre++[(.lit o)]) m.length (hn▸bH _) ⟨gu hf j8,m,by refine af hl<|af (ax _ _ _) ?_;rfl,rfl⟩ (hh:=by rwa[af dY<|dq Pk.jw<|af dZ ?_,_])
   . refine eX ?_;intro V;refine kc _ j5 (su (K:=(K.goes pre).nx<|.lit o) (P:=P) (ms:=((K.dt P D pre).add<|(K.goes pre).sE P<|.lit o).ms) (s:=(.lit o)) t3 j8<|xJ t1.pl t4) ?_
     rwa[kz _ (P:=pE K P D l ao (.exc 138)<|eU ((K.goes pre).nx<|.lit o) P ((K.dt P D pre).add<|(K.goes pre).sE P<|.lit o)++[.ba<|aP K pre]),⟨_,_,[.ba<|aP K pre],rfl,.inr ⟨⟨pre,(.lit o),m,hl,hf,j8,rfl,rfl⟩,rfl⟩⟩]
  |mat d n'=>
   erw [V,kc _ j6 (sr (K:=K.goes pre) (D:=K.dt P D pre) (s:=(.mat d n')) h.p t1 t2 t5),k1 _ Dw,kc _ j5 (BB (K:=(K.goes pre).nx<|.mat d n') (P:=P) (ms:=((K.dt P D pre).add<|(K.goes pre).sE P<|.mat d n').ms) (sz:=ae (aP K l).length) (made:=(aP K pre).length) t3 λn e=>by(injection e with e;subst e);exact nZ),V];by_cases j8:(K.goes pre).fit (bZ.len<|.mat d n')
   . refine eX ?_;intro V;refine kc _ j5 (zI (K:=(K.goes pre).nx<|.mat d n') (P:=P) (ms:=((K.dt P D pre).add<|(K.goes pre).sE P<|.mat d n').ms) (s:=(.mat d n')) (bZ.Ok.pl t2 t3 t4) j8) ?_
     erw [k1 _ (P:=(aP K pre).length+(bZ.oc ((K.goes pre).nx<|.mat d n').w<|.mat d n').length<=1000000) (by rwa[af fN,‹a<57->b+c<=a->b+c<=1000000› hz nZ])];exact tu.at _ (pre++[(.mat d n')]) m.length (hn▸bH _) ⟨gu hf j8,m,by refine af hl<|af (ax _ _ _) ?_;rfl,rfl⟩ (hh:=by rwa[af dY<|dq Pk.jw<|af dZ ?_,_])
   . refine eX ?_;intro V;refine kc _ j5 (su (K:=(K.goes pre).nx<|.mat d n') (P:=P) (ms:=((K.dt P D pre).add<|(K.goes pre).sE P<|.mat d n').ms) (s:=(.mat d n')) t3 j8<|xJ t1.pl t4) ?_
     rwa[kz _ (P:=pE K P D l ao (.exc 138)<|eU ((K.goes pre).nx<|.mat d n') P ((K.dt P D pre).add<|(K.goes pre).sE P<|.mat d n')++[.ba<|aP K pre]),⟨_,_,[.ba<|aP K pre],rfl,.inr ⟨⟨pre,(.mat d n'),m,hl,hf,j8,rfl,rfl⟩,rfl⟩⟩]
  |fin=>exact absurd rfl t3
end
noncomputable def bZ.sh:bZ->AV
 |.lit _=>.tup [sS "lit"]
 |.mat d n=>.tup [sS "match",.int d,.int n]
 |.fin=>.tup [sS "end"]
def ra(K:Pk)(P:Pr)(D:Dc)(l:List bZ)(b:Bool)(r:AR)(h:List AO):Prop:=
 (uL K l/\r= .ret (.ref 6)/\h=eU (K.fi l b) P (K.dE P D l b)++[.lst<|l.map bZ.sh])\/∃K' D' g,h=eU K' P D'++g/\yI K l K'/\r= .exc 138
def Fo(K:Pk)(P:Pr)(D:Dc)(l:List bZ)(b:Bool)(r:AR)(h:List AO):Prop:=
 (uL K l/\r= .ret (.ref 6)/\h=eU (K.fi l b) P (K.dE P D l b)++[.ll<|l.map bZ.sh])\/∃K' D',h=eU K' P D'/\yI K l K'/\r= .exc 138
theorem eI.rfl:eI o o:=λz z z h=>h
theorem F2.refl{Q}(h:∀a,Q a a):∀{l:List α},F2 Q l l
 |[]=>.nil
 |a::l=>.cons (h a)<|F2.refl h
theorem p9(h:AV.cls (λz=>ao) xs=ah):eI (.lst xs) (.ll xs):=λz z z x=>⟨h,x⟩
theorem zK:eI (.ll xs) (.lst xs):=λz z z x=>x.2
theorem Dx:∀{l:List bZ},AV.cls (λz=>ao) (l.map bZ.sh)=ah
 |[]=>rfl
 |s::l=>aQ.mpr ⟨by cases s<;>rfl,Dx (l:=l)⟩
section
variable{K:Pk}
theorem LV.tells{hp}(k:LV n f 6 args hp (ra K P D l b)):LV n f 6 args hp (Fo K P D l b):=
 k.weak λr h q=>by
   rcases q with⟨q1,rfl,rfl⟩ |⟨K',D',g,rfl,q,rfl⟩
   . exact(Vf 7 _ (aa rfl) rfl (qi.obj<|F2.append (F2.refl λz=>eI.rfl)<|.cons (p9 Dx) .nil) (aA 7)<|.inl<|gp q1 rfl rfl)
   . exact(Vf 6 (eU K' P D') (aA 6) rfl (qi.gc (h0:=eU K' P D') rfl<|aA 6) (by rwa[af aj,aU 6 _])<|.inr<|qJ K' D' rfl q rfl)
theorem xh.len:∀{l:List bZ} {K:Pk},xh K l->l.length<=(aP K l).length
 |[],_,_=>aA 0
 |s::l,K,h=>by
  rw[aP,aj,fN,bQ];have h1:=h.1.2.pos h.1.1;have h2:=xh.len (l:=l) h.2;exact‹0<a->b<=c->b+1<=a+c› h1 h2
theorem YO(hr:K.rs=0)(hm:K.pY=ao)(h:K.Rd P D l ah):LV 14 670 6 [.ref 0,.ref 5,.none,.bool ah] (eU K P D) (Fo K P D l ah):=by
 have hz:=p8 h.t;erw [LV.tells<|NM.gen rfl ?_,V,kc _ j5 (wN (K:=K) (P:=P) (ms:=D.ms) hr),kc _ j5 (G7 (K:=K) (P:=P) (ms:=D.ms) (sz:=aq) (b:=ah) λz=>rfl),V,kc _ j5 (Kv (K:=K) (P:=P) (ms:=D.ms) hm)]
 refine kw _ (λ(pre:List bZ) n=>uL K pre/\∃m,l=pre++m/\n=m.length+1) (λpre n=>[ae<|.ref 0,ae<|.ref 5,ae .none,ae<|.bool ah,ae<|.ref 6,ae<|.int (aP K pre).length,aq]) (λpre n=>eU (K.goes pre) P (K.dt P D pre)++[.lst<|pre.map bZ.sh]) [] (l.length+1) ⟨trivial,l,rfl,rfl⟩ (λn pre hs tu=>?_)
  (hh:=by rwa[af (show K.dt P D []=D from Dc.add_nil),_])
 erw [V,nn λzn=>?_,aT hs λhf aH=>?_,-hs,aK aH λm hl hn=>?_,zn,-zn,-aH];have YQ:=xh.len h.t.s;have oy:pre.length<1000000:=by rw[hl,aj] at YQ;rw[hl] at hz;exact‹a<57->b+c<=a->b<1000000› hz YQ
 cases m with
 |nil=>
  rw[bD] at hl;subst hl;have hE:=h.t.end;refine c4 h.d λex hd=>?_;have hd:(K.dt P D l).Ok ((K.goes l).sE P .fin++ex):=Dc.Ok.step hd;exact kc _ j6 (sr (K:=K.goes l) (D:=K.dt P D l) (s:=.fin) h.p hE trivial hd)<|kc _ j5 (PN (K:=(K.goes l).nx .fin) (P:=P) (ms:=((K.dt P D l).add<|(K.goes l).sE P .fin).ms) (made:=(aP K l).length))<|kz _ (P:=ra K P D l ah (.ret<|.ref 6)<|eU ((K.goes l).nx .fin).end P ((K.dt P D l).add<|(K.goes l).sE P .fin)++[.lst<|l.map bZ.sh])<|.inl<|gp hf rfl rfl
 |cons s m=>
  rw[hl] at h;have ON:(aP K pre).length+s.len<=1000000:=by rw[hl,fu,aP,aj,aj,fN] at hz;exact‹a+(b+c)<57->a+b<=1000000› hz
  refine nn λzn=>?_;obtain⟨t1,t2,t3,t4,rest,t5⟩:=h.turn
  cases s with
  |lit o=>
   erw [zn,-zn,kc _ j6 (sr (K:=K.goes pre) (D:=K.dt P D pre) (s:=(.lit o)) h.p t1 t2 t5),kc _ j5 (BB (K:=(K.goes pre).nx<|.lit o) (P:=P) (ms:=((K.dt P D pre).add<|(K.goes pre).sE P<|.lit o).ms) (sz:=aq) (made:=(aP K pre).length) t3 λn e=>nomatch e),V];by_cases j8:(K.goes pre).fit (bZ.len<|.lit o)
   . refine eX ?_;intro V;refine kc _ j5 (zI (K:=(K.goes pre).nx<|.lit o) (P:=P) (ms:=((K.dt P D pre).add<|(K.goes pre).sE P<|.lit o).ms) (s:=(.lit o)) (bZ.Ok.pl t2 t3 t4) j8) ?_
     erw [k1 _ (P:=(bZ.oc ((K.goes pre).nx<|.lit o).w<|.lit o).length<=1000000) (by rwa[af fN,‹a+b<=1000000->b<=1000000› ON]),k1 _ (P:=(pre.map bZ.sh).length<1000000) (by rwa[af (a3 _),oy])]
     exact tu.by _ (pre++[(.lit o)]) (m.length+1) (hn▸bH _) ⟨gu hf j8,m,by refine af hl<|af (ax _ _ _) ?_;rfl,rfl⟩ (λx=>[ae<|.ref 0,ae<|.ref 5,ae<|wO aq,ae<|.bool ah,ae<|.ref 6,ae<|.int x,ae<|bZ.av<|.lit o])
      (x:=((aP K pre).length:Int)+(bZ.oc ((K.goes pre).nx<|.lit o).w<|.lit o).length) (y:=((aP K<|pre++[(.lit o)]).length:Nat)) (by refine af dZ<|af aj ?_;rfl) (hh:=by rwa[af dY<|dq Pk.jw<|af cN ?_,_])
   . refine eX ?_;intro V;refine kc _ j5 (su (K:=(K.goes pre).nx<|.lit o) (P:=P) (ms:=((K.dt P D pre).add<|(K.goes pre).sE P<|.lit o).ms) (s:=(.lit o)) t3 j8<|xJ t1.pl t4) ?_
     exact kz _ (P:=ra K P D l ah (.exc 138)<|eU ((K.goes pre).nx<|.lit o) P ((K.dt P D pre).add<|(K.goes pre).sE P<|.lit o)++[.lst<|pre.map bZ.sh])<|.inr<|Ic _ _ _ rfl ⟨pre,(.lit o),m,hl,hf,j8,rfl,rfl⟩ rfl
  |mat d n'=>
   erw [zn,-zn,kc _ j6 (sr (K:=K.goes pre) (D:=K.dt P D pre) (s:=(.mat d n')) h.p t1 t2 t5),kc _ j5 (BB (K:=(K.goes pre).nx<|.mat d n') (P:=P) (ms:=((K.dt P D pre).add<|(K.goes pre).sE P<|.mat d n').ms) (sz:=aq) (made:=(aP K pre).length) t3 λn e=>nomatch e),V];by_cases j8:(K.goes pre).fit (bZ.len<|.mat d n')
   . refine eX ?_;intro V;refine kc _ j5 (zI (K:=(K.goes pre).nx<|.mat d n') (P:=P) (ms:=((K.dt P D pre).add<|(K.goes pre).sE P<|.mat d n').ms) (s:=(.mat d n')) (bZ.Ok.pl t2 t3 t4) j8) ?_
     erw [k1 _ (P:=(bZ.oc ((K.goes pre).nx<|.mat d n').w<|.mat d n').length<=1000000) (by rwa[af fN,‹a+b<=1000000->b<=1000000› ON]),k1 _ (P:=(pre.map bZ.sh).length<1000000) (by rwa[af (a3 _),oy])]
     exact tu.by _ (pre++[(.mat d n')]) (m.length+1) (hn▸bH _) ⟨gu hf j8,m,by refine af hl<|af (ax _ _ _) ?_;rfl,rfl⟩ (λx=>[ae<|.ref 0,ae<|.ref 5,ae<|wO aq,ae<|.bool ah,ae<|.ref 6,ae<|.int x,ae<|bZ.av<|.mat d n'])
      (x:=((aP K pre).length:Int)+(bZ.oc ((K.goes pre).nx<|.mat d n').w<|.mat d n').length) (y:=((aP K<|pre++[(.mat d n')]).length:Nat)) (by refine af dZ<|af aj ?_;rfl) (hh:=by rwa[af dY<|dq Pk.jw<|af cN ?_,_])
   . refine eX ?_;intro V;refine kc _ j5 (su (K:=(K.goes pre).nx<|.mat d n') (P:=P) (ms:=((K.dt P D pre).add<|(K.goes pre).sE P<|.mat d n').ms) (s:=(.mat d n')) t3 j8<|xJ t1.pl t4) ?_
     exact kz _ (P:=ra K P D l ah (.exc 138)<|eU ((K.goes pre).nx<|.mat d n') P ((K.dt P D pre).add<|(K.goes pre).sE P<|.mat d n')++[.lst<|pre.map bZ.sh])<|.inr<|Ic _ _ _ rfl ⟨pre,(.mat d n'),m,hl,hf,j8,rfl,rfl⟩ rfl
  |fin=>rwa[zn,-zn,absurd rfl t3]
theorem YR(hr:K.rs=0)(hm:K.pY=ao)(h:K.Rd P D l ao):LV 14 670 6 [.ref 0,.ref 5,.int (aP K l).length,.bool ao] (eU K P D) (Fo K P D l ao):=by
 have hz:=p8 h.t;erw [LV.tells<|NM.gen rfl ?_,V,kc _ j5 (wN (K:=K) (P:=P) (ms:=D.ms) hr),kc _ j5 (G7 (K:=K) (P:=P) (ms:=D.ms) (sz:=ae (aP K l).length) (b:=ao) λe=>nomatch e),V,kc _ j5 (Kv (K:=K) (P:=P) (ms:=D.ms) hm)]
 refine kw _ (λ(pre:List bZ) n=>uL K pre/\∃m,l=pre++m/\n=m.length) (λpre n=>[ae<|.ref 0,ae<|.ref 5,ae<|.int (aP K l).length,ae<|.bool ao,ae<|.ref 6,ae<|.int (aP K pre).length,aq]) (λpre n=>eU (K.goes pre) P (K.dt P D pre)++[.lst<|pre.map bZ.sh]) [] l.length ⟨trivial,l,rfl,rfl⟩ (λn pre hs tu=>?_)
  (hh:=by rwa[af (show K.dt P D []=D from Dc.add_nil),_])
 erw [V,nn λzn=>?_,aT hs λhf aH=>?_,-hs,aK aH λm hl hn=>?_,zn,-zn,-aH];have YQ:=xh.len h.t.s;have oy:pre.length<1000000:=by rw[hl,aj] at YQ;rw[hl] at hz;exact‹a<57->b+c<=a->b<1000000› hz YQ
 cases m with
 |nil=>
  rw[bD] at hl;rwa[!hl,kb _ (P:=((aP K l).length:Int)<(aP K l).length) (B0 _)<|kz _ (P:=ra K P D l ao (.ret<|.ref 6)<|eU (K.goes l) P (K.dt P D l)++[.lst<|l.map bZ.sh])<|.inl<|gp hf rfl rfl]
 |cons s m=>
  rw[hl] at h;have nZ:(aP K pre).length+s.len<=(aP K l).length:=by rw[hl,fu,aP,aj,aj,fN];exact‹a+b<=a+(b+c)›
  obtain⟨t1,t2,t3,t4,rest,t5⟩:=h.turn;have ON:(aP K pre).length+s.len<=1000000:=‹a<57->b+c<=a->b+c<=1000000› hz nZ;have uV:=t2.pos t3;erw [ka _ (P:=((aP K pre).length:Int)<(aP K l).length) (aF.mpr<|‹a+b<=c->0<b->a<c› nZ uV)]
  cases s with
  |lit o=>
   erw [V,kc _ j6 (sr (K:=K.goes pre) (D:=K.dt P D pre) (s:=(.lit o)) h.p t1 t2 t5),kc _ j5 (BB (K:=(K.goes pre).nx<|.lit o) (P:=P) (ms:=((K.dt P D pre).add<|(K.goes pre).sE P<|.lit o).ms) (sz:=(ae (aP K l).length)) (made:=(aP K pre).length) t3 λn e=>by(injection e with e;subst e);exact nZ),V];by_cases j8:(K.goes pre).fit (bZ.len<|.lit o)
   . refine eX ?_;intro V;refine kc _ j5 (zI (K:=(K.goes pre).nx<|.lit o) (P:=P) (ms:=((K.dt P D pre).add<|(K.goes pre).sE P<|.lit o).ms) (s:=(.lit o)) (bZ.Ok.pl t2 t3 t4) j8) ?_
     erw [k1 _ (P:=(bZ.oc ((K.goes pre).nx<|.lit o).w<|.lit o).length<=1000000) (by rwa[af fN,‹a<57->b+c<=a->c<=1000000› hz nZ]),k1 _ (P:=(pre.map bZ.sh).length<1000000) (by rwa[af (a3 _),oy])]
     exact tu.by _ (pre++[(.lit o)]) m.length (hn▸bH _) ⟨gu hf j8,m,by refine af hl<|af (ax _ _ _) ?_;rfl,rfl⟩ (λx=>[ae<|.ref 0,ae<|.ref 5,ae<|wO<|ae (aP K l).length,ae<|.bool ao,ae<|.ref 6,ae<|.int x,ae<|bZ.av<|.lit o])
      (x:=((aP K pre).length:Int)+(bZ.oc ((K.goes pre).nx<|.lit o).w<|.lit o).length) (y:=((aP K<|pre++[(.lit o)]).length:Nat)) (by refine af dZ<|af aj ?_;rfl) (hh:=by rwa[af dY<|dq Pk.jw<|af cN ?_,_])
   . refine eX ?_;intro V;refine kc _ j5 (su (K:=(K.goes pre).nx<|.lit o) (P:=P) (ms:=((K.dt P D pre).add<|(K.goes pre).sE P<|.lit o).ms) (s:=(.lit o)) t3 j8<|xJ t1.pl t4) ?_
     exact kz _ (P:=ra K P D l ao (.exc 138)<|eU ((K.goes pre).nx<|.lit o) P ((K.dt P D pre).add<|(K.goes pre).sE P<|.lit o)++[.lst<|pre.map bZ.sh])<|.inr<|Ic _ _ _ rfl ⟨pre,(.lit o),m,hl,hf,j8,rfl,rfl⟩ rfl
  |mat d n'=>
   erw [V,kc _ j6 (sr (K:=K.goes pre) (D:=K.dt P D pre) (s:=(.mat d n')) h.p t1 t2 t5),kc _ j5 (BB (K:=(K.goes pre).nx<|.mat d n') (P:=P) (ms:=((K.dt P D pre).add<|(K.goes pre).sE P<|.mat d n').ms) (sz:=(ae (aP K l).length)) (made:=(aP K pre).length) t3 λn e=>by(injection e with e;subst e);exact nZ),V];by_cases j8:(K.goes pre).fit (bZ.len<|.mat d n')
   . refine eX ?_;intro V;refine kc _ j5 (zI (K:=(K.goes pre).nx<|.mat d n') (P:=P) (ms:=((K.dt P D pre).add<|(K.goes pre).sE P<|.mat d n').ms) (s:=(.mat d n')) (bZ.Ok.pl t2 t3 t4) j8) ?_
     erw [k1 _ (P:=(bZ.oc ((K.goes pre).nx<|.mat d n').w<|.mat d n').length<=1000000) (by rwa[af fN,‹a<57->b+c<=a->c<=1000000› hz nZ]),k1 _ (P:=(pre.map bZ.sh).length<1000000) (by rwa[af (a3 _),oy])]
     exact tu.by _ (pre++[(.mat d n')]) m.length (hn▸bH _) ⟨gu hf j8,m,by refine af hl<|af (ax _ _ _) ?_;rfl,rfl⟩ (λx=>[ae<|.ref 0,ae<|.ref 5,ae<|wO<|ae (aP K l).length,ae<|.bool ao,ae<|.ref 6,ae<|.int x,ae<|bZ.av<|.mat d n'])
      (x:=((aP K pre).length:Int)+(bZ.oc ((K.goes pre).nx<|.mat d n').w<|.mat d n').length) (y:=((aP K<|pre++[(.mat d n')]).length:Nat)) (by refine af dZ<|af aj ?_;rfl) (hh:=by rwa[af dY<|dq Pk.jw<|af cN ?_,_])
   . refine eX ?_;intro V;refine kc _ j5 (su (K:=(K.goes pre).nx<|.mat d n') (P:=P) (ms:=((K.dt P D pre).add<|(K.goes pre).sE P<|.mat d n').ms) (s:=(.mat d n')) t3 j8<|xJ t1.pl t4) ?_
     exact kz _ (P:=ra K P D l ao (.exc 138)<|eU ((K.goes pre).nx<|.mat d n') P ((K.dt P D pre).add<|(K.goes pre).sE P<|.mat d n')++[.lst<|pre.map bZ.sh])<|.inr<|Ic _ _ _ rfl ⟨pre,(.mat d n'),m,hl,hf,j8,rfl,rfl⟩ rfl
  |fin=>exact absurd rfl t3
end
section
variable{K:Pk}
theorem qeu(hr:K.rs=0)(hm:K.pY=ao)(hP:P.Ok)(hK:K.Ok)(hD:D.Ok (K.sE P .fin++todo)):LV 10 642 6 [.ref 0,.ref 5] (eU K P D) (bN (.ret .none)<|eU (K.nx .fin).end P<|D.add<|K.sE P .fin):=by
 exact Xs.one rfl λpost hz=>(kc _ j5 (wN (K:=K) (P:=P) (ms:=D.ms) hr)<|kc _ j5 (Kv (K:=K) (P:=P) (ms:=D.ms) hm)<|kc _ j6 (sr (K:=K) (D:=D) (s:=.fin) hP hK trivial hD)<|kz _ hz)
theorem YS(hr:K.rs=0)(hm:K.pY=ah):LV 11 642 6 [.ref 0,.ref 5] (eU K P D) (bN (.exc 100)<|eU K P D):=by
 exact Xs.one rfl λpost hz=>(kc _ j5 (wN (K:=K) (P:=P) (ms:=D.ms) hr)<|kc _ j5 (By (K:=K) (P:=P) (ms:=D.ms) hm)<|kz _ hz)
theorem PT(hs:sz=aq->b=ah)(hr:K.rs=0)(hm:K.pY=ah):LV 11 578 6 [.ref 0,.ref 5,wO sz,.bool b] (eU K P D) (bN (.exc 100)<|eU K P D):=by
 have h1:=G7 (K:=K) (P:=P) (ms:=D.ms) hs
 cases sz with
 |none=>
  rwa[NL.one rfl λpost hz=>?_,V,kc _ j5 (wN (K:=K) (P:=P) (ms:=D.ms) hr),kc _ j5 h1<|kc _ j5 (By (K:=K) (P:=P) (ms:=D.ms) hm)<|kz _ hz]
 |some n=>
  rwa[NL.one rfl λpost hz=>?_,V,kc _ j5 (wN (K:=K) (P:=P) (ms:=D.ms) hr),kc _ j5 h1<|kc _ j5 (By (K:=K) (P:=P) (ms:=D.ms) hm)<|kz _ hz]
theorem PU(hs:sz=aq->b=ah)(hr:K.rs=0)(hm:K.pY=ah):LV 11 670 6 [.ref 0,.ref 5,wO sz,.bool b] (eU K P D) (bN (.exc 100)<|eU K P D):=by
 have h1:=G7 (K:=K) (P:=P) (ms:=D.ms) hs
 cases sz with
 |none=>
  rwa[NM.one rfl λpost hz=>?_,V,kc _ j5 (wN (K:=K) (P:=P) (ms:=D.ms) hr),kc _ j5 h1<|kc _ j5 (By (K:=K) (P:=P) (ms:=D.ms) hm)<|kz _ hz]
 |some n=>
  rwa[NM.one rfl λpost hz=>?_,V,kc _ j5 (wN (K:=K) (P:=P) (ms:=D.ms) hr),kc _ j5 h1<|kc _ j5 (By (K:=K) (P:=P) (ms:=D.ms) hm)<|kz _ hz]
theorem YT(hr:K.rs=0)(hm:K.pY=ah):LV 2 663 6 [.ref 0,.ref 5,.bool b] (eU K P D) (bN (.ret .none)<|eU K P D):=by
 obtain⟨mo,pl,st,mk,rs,w,r0,r1,r2,r3⟩:=K;rwa[!hm,qdC.one rfl λpost hz=>?_,V,kc _ j5 (wN (K:=⟨mo,pl,st,ah,rs,w,r0,r1,r2,r3⟩) (P:=P) (ms:=D.ms) hr),kz _ hz]
theorem YU(hm:K.pY=ah):LV 2 649 6 [.ref 0,.ref 5,.int 3] (eU K P D) (bN (.ret<|.bytes [])<|eU K P D):=by
 obtain⟨mo,pl,st,mk,rs,w,r0,r1,r2,r3⟩:=K;rwa[!hm,LV.pick (h1:=eU ⟨mo,pl,st,ah,rs,w,r0,r1,r2,r3⟩ P D++[.ba []]) (r:=.ret<|.bytes []) [6] j6<|Xu.one rfl λpost hz=>?_,kb _ (P:=(3:Int)<0) (by decide),kw _ (λ(_:Unit) _=>True) (λz z=>[ae<|.ref 0,ae<|.ref 5,ae<|.int 3,ae<|.ref 6,aq]) (λz z=>eU ⟨mo,pl,st,ah,rs,w,r0,r1,r2,r3⟩ P D++[.ba []]) () 0 trivial (λn pre hs tu=>?_),k1 _ (P:=(0:Nat)<=1000000) (by decide)<|ka _ (P:=((0:Nat):Int)<3) (by decide)<|k1 _ (P:=(0:Nat)<=1000000) (by decide)<|kz _ hz]
noncomputable def bP(mo:Option Nat):Pk:=⟨mo,0,0,ao,0,[],1,1,1,1⟩
noncomputable def Pk.fg(K:Pk):Pk:={K with pl:=0,rs:=0}
theorem qev:LV 2 628 5 [.ref 0] (K.o P ms) (bN (.ret .none)<|K.fg.o P ms):=by
 exact qdz.one rfl λpost hz=>(kc _ j5 (show LV 1 494 5 [.ref 0] (K.o P ms) (bN (.ret .none)<|{K with pl:=0}.o P ms) from qdt.one rfl λpost hz=>kz _ hz)<|kz _ hz)
noncomputable def Pk.rst(K:Pk):Pk:={K with st:=0,pY:=ao,rs:=0,r0:=1,r1:=1,r2:=1,r3:=1}
theorem qew(hP:P.Ok):LV 6 487 5 [.ref 0] (K.o P ms) (bN (.ret .none)<|{K with st:=0,pY:=ao,r0:=1,r1:=1,r2:=1,r3:=1}.o P nN):=by
 exact qds.one rfl λpost hz=>(kc _ [1] (qek (P:=P) (ms:=ms) hP)<|kc _ [4] (qej (a:=K.r0) (b:=K.r1) (c:=K.r2) (d:=K.r3))<|kz _ hz)
theorem qex(hP:P.Ok):LV 7 621 5 [.ref 0] (K.o P ms) (bN (.ret .none)<|K.rst.o P nN):=by
 exact qdy.one rfl λpost hz=>(kc _ j5 (qew (K:=K) (P:=P) (ms:=ms) hP)<|kz _ hz)
end
noncomputable def Pk.wr(K:Pk)(n:Nat):Pk:={K with rs:=n}
section
variable{K:Pk}{P:Pr}{D:Dc}{l:List bZ}
theorem qey{n:Nat}(hq:(n:Int)<=q)(hd:K.r0=d)(h1:1<=d)(h2:d<=K.w.length)(hw:K.w.length+n<63):
 LV 8 656 5 [.ref 0,.int q] ((K.wr n).o P ms) (bN (.ret<|.bytes<|jG K.w d n)<|((K.pd<|.mat d n).wr 0).o P ms):=by
 have e:(if q<(n:Int) then q else(n:Int))=n:=if_neg<|bO.mpr hq;erw [qdB.one rfl λpost hz=>?_,V,kc _ [4] (Kp (a:=K.r0) (b:=K.r1) (c:=K.r2) (d:=K.r3)),kC _ [2,3] (Yq (w:=K.w) (d:=d) (n:=n) hw h1 h2) ?_ (ha:=ig (b:=[.ref 2,.int K.r0,.int<|if q<(n:Int) then q else(n:Int)]) (by kernel_rfl)<|by rwa[af e<|af hd ?_,_])]
 refine kz _ (P:=post (.ret<|.bytes<|jG K.w d n) [.inst 673 [ae<|.ref 1,ae<|.ref 2,ae<|YA K.mo,ae<|.int<|(K.pl:Int)+(if q<(n:Int) then q else(n:Int)),ae<|.int K.st,ae<|.ref 4,ae<|.bool K.pY,ae<|.int<|(n:Int)-(if q<(n:Int) then q else(n:Int))],Al P ms,
  .inst 1000 [ae<|.int 64,ae<|.int (K.w++jG K.w d n).length,ae<|.ref 3,ae<|.int (K.w++jG K.w d n).length],.ba<|K.w++jG K.w d n,Cj K.r0 K.r1 K.r2 K.r3]) ?_
 rwa[af e<|af (DM _) ?_,hz]
noncomputable def Pk.un(K:Pk):Pk:={K with pY:=ao,rs:=0}
theorem YV(hm:K.pY=ao)(hr:K.rs=0):K.un=K:=by obtain⟨a,b,c,d,e,f,g,i,j,k⟩:=K;erw [!hm,!hr];rfl
set_option genCtorIdx false in
inductive PS |a(pre:List bZ) |b(pre:List bZ)(d n:Nat) |c
def PS.o(K:Pk)(P:Pr)(D:Dc)(l:List bZ):PS->List AO
 |.a pre=>eU (K.goes pre).un P (K.dt P D pre)++[.ba<|aP K pre]
 |.b pre d n=>eU (((K.goes pre).un.nx<|.mat d n).wr n) P (K.dt P D<|pre++[.mat d n])++[.ba<|aP K pre]
 |.c=>eU ((K.goes l).un.nx .fin).end P (K.dE P D l ah)++[.ba<|aP K l]
def PS.ok(K:Pk)(l:List bZ)(b:Bool)(x:PS)(n:Nat):Prop:=match x with
 |.a pre=>uL K pre/\∃m,l=pre++m/\n=2*m.length+2
 |.b pre d k=>uL K pre/\(K.goes pre).fit k/\∃m,l=pre++ .mat d k::m/\n=2*m.length+3
 |.c=>uL K l/\b=ah/\n=0
noncomputable def SX(b:Bool):Nat:=match b with |true=>1 |false=>0
theorem YW(hr:K.rs=0)(hm:K.pY=ao)(h:K.Rd P D l b):LV 14 649 6 [.ref 0,.ref 5,.int ((aP K l).length+SX b:Nat)] (eU K P D) (N0 K P D l b):=by
 have hz:=p8 h.t;have hb1:SX b<=1:=by cases b<;>decide
 have hun:∀pre,(K.goes pre).un=K.goes pre:=λpre=>YV (sv.trans hm)<|vq.trans hr;erw [LV.tell<|Xu.gen rfl ?_,V,kb _ (P:=(((aP K l).length+SX b:Nat):Int)<0) (bO.mpr<|aD _)]
 refine kw _ (λx n=>PS.ok K l b x n) (λy y=>[ae<|.ref 0,ae<|.ref 5,ae<|.int ((aP K l).length+SX b:Nat),ae<|.ref 6,aq]) (λx y=>x.o K P D l) (.a []) (2*l.length+2) ⟨trivial,l,rfl,rfl⟩ (λn x hs tu=>?_)
  (hh:=by rw[PS.o,show K.dt P D []=D from Dc.add_nil,hun];kernel_rfl)
 cases x with
 |c=>
  erw [V];obtain⟨hf,hb,-⟩:=hs;rwa[!hb,k1 _ (P:=(aP K l).length<=1000000) (‹a<57->a<=1000000› hz),ka _ (P:=((aP K l).length:Int)<((aP K l).length+1:Nat)) (aF.mpr<|bH _),k1 _ (P:=(aP K l).length<=1000000) (‹a<57->a<=1000000› hz),kz _ (P:=pE K P D l ah (.ret<|.bytes<|aP K l)<|eU ((K.goes l).un.nx .fin).end P (K.dE P D l ah)++[.ba<|aP K l]),⟨_,_,[.ba<|aP K l],rfl,.inl<|mT hf rfl (by erw [af (hun _)];rfl) rfl⟩]
 |b pre d k=>
  erw [V,lE hs λhf j8 aH=>?_,-hs,aK aH λm hl hn=>?_,-aH];rw[hl] at h;obtain⟨t1,t2,t3,t4,rest,t5⟩:=h.turn;erw [lE t2 λaH u4 u5=>?_,-t2,lE aH λu1 u2 u3=>?_,-aH];have nZ:(aP K pre).length+k<=(aP K l).length:=by rw[hl,fu,aP,aj,aj,fN];simp only[bZ.len];exact‹a+b<=a+(b+c)›
  have Dw:(aP K pre).length<=1000000:=‹a<57->b+c<=a->b<=1000000› hz nZ;erw [k1 _ Dw,ka _ (P:=((aP K pre).length:Int)<((aP K l).length+SX b:Nat)) (aF.mpr<|‹2<=a->(b+a<=c)^2->(b<c+d)^2› u4 nZ),ka _ (P:=(0:Int)<(k:Nat)) (‹2<=a->(a>0)^2› u4),k1 _ Dw,kc _ j5 (qey (K:=(K.goes pre).un.nx<|.mat d k) (P:=P) (ms:=(K.dt P D<|pre++[.mat d k]).ms) (d:=d) (n:=k) (q:=((aP K l).length+SX b:Nat)-((aP K pre).length:Nat)) (‹a+b<=c->c+d-a>=b› nZ) rfl u1 u2<|aZ t4<|by decide),k1 _ (P:=(aP K pre).length+(jG (K.goes pre).w d k).length<=1000000) (by rwa[af pX,‹a<57->b+c<=a->b+c<=1000000› hz nZ])];exact tu.at _ (.a<|pre++[.mat d k]) (2*m.length+2) (hn▸bH _) ⟨gu (s:=.mat d k) hf j8,m,by refine af hl<|af (ax _ _ _) ?_;rfl,rfl⟩ (hh:=ig (b:=eU (K.goes<|pre++[.mat d k]).un P (K.dt P D<|pre++[.mat d k])++[.ba<|aP K<|pre++[.mat d k]]) (by rwa[af dY<|af dZ ?_,_])<|by kernel_rfl)
 |a pre=>
  erw [V,aT hs λhf aH=>?_,-hs,aK aH λm hl hn=>?_,-aH];have Dw:(aP K pre).length<=1000000:=by rw[hl,fu,aj] at hz;exact‹a+b<57->a<=1000000› hz
  erw [k1 _ Dw]
  cases m with
  |nil=>
   erw [V];rw[bD] at hl;subst hl
   cases b with
   |false=>
    rwa[V,kb _ (P:=((aP K l).length:Int)<((aP K l).length+0:Nat)) (bO.mpr<|‹a>=a+0›),k1 _ Dw,kz _ (P:=pE K P D l ao (.ret<|.bytes<|aP K l)<|eU (K.goes l).un P (K.dt P D l)++[.ba<|aP K l]),⟨_,_,[.ba<|aP K l],rfl,.inl<|mT hf rfl (hun _) rfl⟩]
   |true=>
    erw [V];have hE:(K.goes l).un.Ok:=by rwa[af (hun _),h.t.end]
    refine c4 h.d λex hd=>?_;have hd:(K.dt P D l).Ok ((K.goes l).un.sE P .fin++ex):=Dc.Ok.step hd;rwa[ka _ (P:=((aP K l).length:Int)<((aP K l).length+1:Nat)) (aF.mpr<|bH _),kb _ (P:=(0:Int)<(0:Nat)) (by decide),kc _ j6 (sr (K:=(K.goes l).un) (D:=K.dt P D l) (s:=.fin) h.p hE trivial hd),tu.at _ .c 0 (‹a==2*b+2->(0<a)^2› hn) ⟨hf,rfl,rfl⟩]
  |cons s m=>
   erw [V];have nZ:(aP K pre).length+s.len<=(aP K l).length:=by rw[hl,fu,aP,aj,aj,fN];exact‹a+b<=a+(b+c)›
   rw[hl] at h;obtain⟨t1,t2,t3,t4,rest,t5⟩:=h.turn;have uV:=t2.pos t3;have ON:(aP K pre).length+s.len<=1000000:=‹a<57->b+c<=a->b+c<=1000000› hz nZ;have t1:(K.goes pre).un.Ok:=by rwa[af (hun _),t1]
   erw [ka _ (P:=((aP K pre).length:Int)<((aP K l).length+SX b:Nat)) (aF.mpr<|‹a+b<=c->0<b->a<c+d› nZ uV),kb _ (P:=(0:Int)<(0:Nat)) (by decide)]
   cases s with
   |lit o=>
    erw [V,kc _ j6 (sr (K:=(K.goes pre).un) (D:=K.dt P D pre) (s:=.lit o) h.p t1 t2 t5),V];by_cases j8:(K.goes pre).fit 1
    . refine eX ?_;intro V;refine kc _ j5 (zI (K:=(K.goes pre).un.nx<|.lit o) (P:=P) (ms:=((K.dt P D pre).add<|(K.goes pre).un.sE P<|.lit o).ms) (s:=.lit o) (bZ.Ok.pl (K:=(K.goes pre).un) t2 t3 t4) j8) ?_
      erw [k1 _ (P:=(aP K pre).length+[bz o].length<=1000000) ON];exact tu.at _ (.a<|pre++[.lit o]) (2*m.length+2) (by rwa[af hn<|af bQ ?_,‹2*a+2<2*(a+1)+2›]) ⟨gu (s:=.lit o) hf j8,m,by refine af hl<|af (ax _ _ _) ?_;rfl,rfl⟩ (hh:=ig (b:=eU (K.goes<|pre++[.lit o]).un P (K.dt P D<|pre++[.lit o])++[.ba<|aP K<|pre++[.lit o]]) (by rwa[af dY<|dq Pk.jw<|af dZ ?_,_])<|by kernel_rfl)
    . refine eX ?_;intro V;refine kc _ j5 (su (K:=(K.goes pre).un.nx<|.lit o) (P:=P) (ms:=((K.dt P D pre).add<|(K.goes pre).un.sE P<|.lit o).ms) (s:=.lit o) t3 j8<|xJ t1.pl t4) ?_
      rwa[kz _ (P:=pE K P D l b (.exc 138)<|eU ((K.goes pre).un.nx<|.lit o) P ((K.dt P D pre).add<|(K.goes pre).un.sE P<|.lit o)++[.ba<|aP K pre]),⟨_,_,[.ba<|aP K pre],rfl,.inr ⟨⟨pre,.lit o,m,hl,hf,j8,rfl,rfl⟩,rfl⟩⟩]
   |mat d k=>
    erw [V,kc _ j6 (sr (K:=(K.goes pre).un) (D:=K.dt P D pre) (s:=.mat d k) h.p t1 t2 t5),kc _ [] (Bz (s:=.mat d k)),V];by_cases j8:(K.goes pre).fit k
    . refine eX ?_;intro V;refine kc _ j5 (SR (K:=(K.goes pre).un.nx<|.mat d k) (P:=P) (ms:=((K.dt P D pre).add<|(K.goes pre).un.sE P<|.mat d k).ms) (n:=k) j8) ?_
      erw [kc _ [] (Bz (s:=.mat d k))];exact tu.at _ (.b pre d k) (2*m.length+3) (by rwa[af hn<|af bQ ?_,‹2*a+3<2*(a+1)+2›]) ⟨hf,j8,m,hl,rfl⟩ (hh:=ig (b:=eU (((K.goes pre).un.nx<|.mat d k).wr k) P (K.dt P D<|pre++[.mat d k])++[.ba<|aP K pre]) (by rwa[dq Pk.jw,_])<|by kernel_rfl)
    . refine eX ?_;intro V;refine kc _ j5 (Kx (K:=(K.goes pre).un.nx<|.mat d k) (P:=P) (ms:=((K.dt P D pre).add<|(K.goes pre).un.sE P<|.mat d k).ms) (n:=k) j8<|xJ t1.pl t4) ?_
      rwa[kz _ (P:=pE K P D l b (.exc 138)<|eU ((K.goes pre).un.nx<|.mat d k) P ((K.dt P D pre).add<|(K.goes pre).un.sE P<|.mat d k)++[.ba<|aP K pre]),⟨_,_,[.ba<|aP K pre],rfl,.inr ⟨⟨pre,.mat d k,m,hl,hf,j8,rfl,rfl⟩,rfl⟩⟩]
   |fin=>exact absurd rfl t3
end
theorem N1(hx:∀g,x.mp g=x):LV 1 683 0 [.int n,x] [] (bN (.ret .none) []):=qdD.one rfl λpost hz=>kz _ hz
theorem SY{n}{lo}{hi}{x}(h1:lo<=n)(h2:∀h,hi=ae h->n<=h):LV 2 690 0 [.int n,.int lo,(match hi with |none=>.none |some h=>.int h),sS x] [] (bN (.ret .none) []):=by
 cases hi with
 |none=>
  rwa[Xv.one rfl λpost hz=>?_,V,kc _ [] (N1 (n:=n) (x:=sS x) λg=>rfl),kb _ (P:=n<lo) (bO.mpr h1)<|kz _ hz]
 |some h=>
  rwa[Xv.one rfl λpost hz=>?_,V,kc _ [] (N1 (n:=n) (x:=sS x) λg=>rfl),kb _ (P:=n<lo) (bO.mpr h1)<|kb _ (P:=h<n) (bO.mpr<|h2 h rfl)<|kz _ hz]
theorem YX{tx:List UInt8}(h1:1<=d)(h2:d<=a)(h3:a<=tx.length)(hz:tx.length<=1000000):LV 1 711 0 [.bytes tx,.int a,.int d] [] (bN (.ret<|.int (tx.getD (a-d) 0).toNat) []):=by
 have e:(a:Int)-d=((a-d:Nat):Int):=(cJ h2).symm;rwa[NO.one rfl λpost hq=>(kb _ (P:=(a:Int)<d) (bO.mpr<|bY.mpr h2)<|k1 _ (P:=(0<=(a:Int)-d/\(a:Int)-d<tx.length)/\tx.length<=1000000) ⟨by exact⟨‹a<=b->b-a>=0› h2,‹1<=a->b<=c->c>b-a› h1 h3⟩,hz⟩ ?_),kz _ (P:=post (.ret<|.int (tx.getD ((a:Int)-d).toNat 0).toNat) [])<|by rwa[af e,hq]]
theorem YY{s:bZ}{st}(h:s.Ok st r0 w)(hf:s≠ .fin):LV 3 697 0 [s.sh] [] (bN (.ret<|.int s.len) []):=by
 cases s with
 |lit o=>exact Xx.one rfl λpost hz=>k1 _ (P:=(1:Nat)<=1000000) (by decide) (kb _ (P:=((1:Nat):Int)=0) (by decide)<|k1 _ (P:=(1:Nat)<=1000000) (by decide)<|ka _ (P:=((1:Nat):Int)=1) rfl<|kz _ hz)
 |mat d n=>
  obtain⟨-,h2,h3⟩:=h;rwa[Xx.one rfl λpost hz=>?_,V,k1 _ (P:=(3:Nat)<=1000000) (by decide),kb _ (P:=((3:Nat):Int)=0) (by decide) (k1 _ (P:=(3:Nat)<=1000000) (by decide)<|ka _ (P:=((3:Nat):Int)=3) rfl<|kc _ [] (N1 (n:=d) (x:=sS "step") λg=>rfl) ?_),V,kc _ [] (SY (n:=n) (lo:=2) (hi:=ae 273) (x:="step") (‹2<=a->a>=2› h2) λh e=>by(injection e with e;subst e);exact‹a<7->273>=a› h3),kz _ hz]
 |fin=>exact absurd rfl hf
theorem jo{w:List UInt8}(h:i<w.length):(w++r).getD i 0=w.getD i 0:=by
 exact af (aW)<|af (bF h)<|af (aW) rfl
theorem Fp(h1:1<=d)(h2:d<=w.length):(w++r).getD (w.length-d) 0=pN w d:=jo<|‹1<=a->b+a=c->b<c› h1 (ay h2)
theorem Tj{d:Nat}(h1:1<=d){n:Nat}:∀{w:List UInt8} {i:Nat},d<=w.length->i<n->(w++jG w d n).getD (w.length+i) 0=(w++jG w d n).getD (w.length+i-d) 0:=by
 induction n with
 |zero=>
  intro _ _ _ hi;exact absurd hi<|iS _
 |succ n ih=>
  intro w i h2 hi;have e:w++jG w d (n+1)=(w++[pN w d])++jG (w++[pN w d]) d n:=by erw [af (ax _ _ _)];rfl
  have hl:(w++[pN w d]).length=w.length+1:=by erw [af aj];rfl
  erw [af e]
  cases i with
  |zero=>
   erw [af (DZ _) (af (jo (w:=w++[pN w d]) (i:=w.length)<|by rw[hl];exact‹a<a+1›)<|af (jo (w:=w++[pN w d]) (i:=w.length-d)<|by rw[hl];exact uU<|dk _ _)<|af (jo (w:=w) (i:=w.length-d)<|‹1<=a->b+a=c->b<c› h1 (ay h2)) ?_),af (aW)<|af (fh<|aA _)<|af (cS _) ?_];rfl
  |succ i=>
   have:=ih (w:=w++[pN w d]) (i:=i) (by rwa[af hl,pK h2])<|‹a+1<b+1->a<b› hi;rw[hl] at this;exact af (show w.length+(i+1)=w.length+1+i by exact‹a+(b+1)=a+1+b›)<|this
theorem qez(h1:1<=d)(h2:d<=w.length)(hn:n<=1000)(hz:(w++jG w d n++r).length<=100000):LV 1 704 0 [.bytes<|w++jG w d n++r,.int w.length,.int d,.int n] [] (bN (.ret<|.bool ah) []):=by
 have hl:(w++jG w d n++r).length=w.length+n+r.length:=af aj<|af aj<|af pX rfl
 have key:∀i,i<n->(w++jG w d n++r).getD (w.length+i) 0=(w++jG w d n++r).getD (w.length+i-d) 0:=λi hi=>by
  have h3:(w++jG w d n).length=w.length+n:=af aj<|af pX rfl;rwa[af (jo (w:=w++jG w d n) (i:=w.length+i)<|by rw[h3];exact‹a<b->c+a<c+b› hi) (af (jo (w:=w++jG w d n) (i:=w.length+i-d)<|by rw[h3];exact‹a<b->c<=d+a->c<d+b› hi (dk _ _)) ?_),Tj h1 h2 hi]
 generalize w++jG w d n++r=tx at hz hl key |-;erw [NN.one rfl λpost hq=>(ka _ (P:=(1:Int)<=d) (‹1<=a->a>=1› h1)<|ka _ (P:=(d:Int)<=w.length) (bY.mpr<|h2)<|k1 _ (P:=tx.length<=1000000) (‹a<=100000->a<=1000000› hz)<|kb _ (P:=(tx.length:Int)<(w.length:Int)+n) (bO.mpr<|‹a==b+c+d->a>=b+c› hl) ?_),kr _ n (λi=>(w.length:Int)+(i:Nat)*1) (λ(_:Unit) i=>True) (λy y=>[ae<|.bytes tx,ae<|.int w.length,ae<|.int d,ae<|.int n,aq]) (λy y=>[]) () ⟨(w.length:Nat),1,⟨by exact‹a<=1000->a<=1000000› hn,.inr<|.inl<|gp rfl ⟨by exact‹a>=0›,by exact‹a<=100000->a==b+c+d->1000000>=b› hz hl⟩ rfl⟩,λi hi=>rfl⟩ trivial (λi s hi hs tu=>?_) λs hs=>?_]
 . have ei:(w.length:Int)+(i:Nat)*1=((w.length+i:Nat):Int):=‹a+b%1&&a+b›
   have ed:(w.length:Int)+(i:Nat)*1-d=((w.length+i-d:Nat):Int):=‹a+b==c+d->c+d%1-b&&a› (ay<|pK h2);erw [k1 _ (P:=(0<=(w.length:Int)+(i:Nat)*1/\(w.length:Int)+(i:Nat)*1<tx.length)/\tx.length<=1000000) ⟨⟨by exact‹a+b%1>=0›,by exact‹a==b+c+d->e<c->a>b+e%1› hl hi⟩,by exact‹a<=100000->a<=1000000› hz⟩ (k1 _ (P:=(0<=(w.length:Int)+(i:Nat)*1-d/\(w.length:Int)+(i:Nat)*1-d<tx.length)/\tx.length<=1000000) ⟨⟨by exact‹a<=b->b+c%1-a>=0› h2,by exact‹a==b+c+d->e<c->a>b+e%1-f› hl hi⟩,by exact‹a<=100000->a<=1000000› hz⟩ ?_),ka _ (P:=((tx.getD ((w.length:Int)+(i:Nat)*1).toNat 0).toNat:Int)=((tx.getD ((w.length:Int)+(i:Nat)*1-d).toNat 0).toNat:Int)) ?_ ?_]
   . exact af ed<|af ei<|af (bS _)<|af (bS _)<|af (key i hi) rfl
   . exact tu.at _ () trivial
 . exact kz _ hq
section
variable{σ:St}{K:Pk}
theorem YZ(h1:1<=d)(h2:d<=K.pl):LV 2 837 26 [.ref 0,.int d] (p0 K P σ) (bN (.ret .none)<|p0 K P σ):=by
 exact qdM.one rfl λpost hz=>(kc _ [] (N1 (n:=d) (x:=sS "distance") λg=>rfl)<|ka _ (P:=(1:Int)<=d) (‹1<=a->a>=1› h1)<|ka _ (P:=(d:Int)<=K.pl) (bY.mpr<|h2)<|kz _ hz)
theorem qeA{n:Nat}(h1:2<=n)(h2:n<=273):LV 3 844 26 [.ref 0,.int n] (p0 K P σ) (bN (.ret .none)<|p0 K P σ):=by
 rwa[qdN.one rfl λpost hz=>?_,V,kc _ [] (SY (n:=n) (lo:=2) (hi:=ae 273) (x:="length") (‹2<=a->a>=2› h1) λh e=>by(injection e with e;subst e);exact‹a<=273->273>=a› h2),kz _ hz]
theorem qeB(h7:7<=K.st->1<=K.r0/\K.r0<=K.pl)(h3:K.pl<=tx.length)(hz:tx.length<=1000000):LV 3 886 26 [.ref 0,.bytes tx,.int K.pl] (p0 K P σ) (bN (.ret<|.int (if K.st<7 then 0 else(tx.getD (K.pl-K.r0) 0).toNat:Nat))<|p0 K P σ):=by
 erw [Kf.one rfl λpost hq=>?_,V];by_cases h:K.st<7
 . refine eX ?_;intro V;rw[if_pos h] at hq
   exact kc _ [] (Ks h)<|kz _ hq
 . refine eX ?_;intro V;refine aT (h7<|a8 h) λa b=>?_
   rw[if_neg h] at hq;exact kc _ [] (Kt h)<|kc _ [4] (Kp (a:=K.r0) (b:=K.r1) (c:=K.r2) (d:=K.r3))<|kc _ [] (YX (tx:=tx) (a:=K.pl) (d:=K.r0) a b h3 hz)<|kz _ hq
theorem Y0{mt}(hP:P.Ok)(Af:K.st<12)(ho:o<256)(hb:bf<256)(hm:mt<256)(h:σ.Ok ((Ev.bit .isMatch (K.st*16+K.pl%P.ps) ao::(if K.st<7 then cE .literals (768*mj P K.pl bf) 1 (ja o 8) else fH (768*mj P K.pl bf) o mt 1 8)).length+r)):
 LV 9 851 26 [.ref 0,.int o,.int bf,.int mt] (p0 K P σ) (bN (.ret .none)<|p0 {K with st:=aL K.st,pl:=K.pl+1} P (σ.run<|Ev.bit .isMatch (K.st*16+K.pl%P.ps) ao::(if K.st<7 then cE .literals (768*mj P K.pl bf) 1 (ja o 8) else fH (768*mj P K.pl bf) o mt 1 8))):=by
 have q:∀{n:Nat},n<256->LV 2 690 0 [.int n,.int 0,.int 255,sS "octet"] [] (bN (.ret .none) []):=λ{n} hn=>SY (n:=n) (lo:=0) (hi:=ae 255) (x:="octet") (‹a>=0›) (λh e=>by(injection e with e;subst e);exact‹a<256->255>=a› hn);rwa[qdO.one rfl λpost hz=>?_,V,kc _ [] (q ho),kc _ [] (q hb)<|kc _ [] (q hm)<|kc _ Bx (qer (K:=K) (P:=P) (σ:=σ) (r:=r) (pl:=K.pl) (bf:=bf) (o:=o) (mt:=mt) hP Af ho hb h)<|kc _ [] (SD (st:=K.st))<|kz _ hz]
theorem qeC(hP:P.Ok)(Af:K.st<12)(hm:m<31)(hp:m+1<=K.pl)(h2:2<=n)(hn:n<7)(h:σ.Ok ((Ev.bit .isMatch (K.st*16+K.pl%P.ps) ah:: .bit .jg K.st ao::qj P K.pl n m).length+r)):
 LV 7 858 26 [.ref 0,.int (m+1:Nat),.int n] (p0 K P σ) (bN (.ret .none)<|p0 {K with st:=aM K.st,pl:=K.pl+n,r0:=m+1,r1:=K.r0,r2:=K.r1,r3:=K.r2} P (σ.run<|Ev.bit .isMatch (K.st*16+K.pl%P.ps) ah:: .bit .jg K.st ao::qj P K.pl n m)):=by
 exact qdP.one rfl λpost hz=>(kc _ Bx (YZ (K:=K) (P:=P) (σ:=σ) (d:=m+1) (OD<|cM _) hp)<|kc _ Bx (qeA (K:=K) (P:=P) (σ:=σ) (n:=n) h2<|‹a<7->a<=273› hn)<|kc _ Bx (YG (K:=K) (P:=P) (σ:=σ) (r:=r) (pl:=K.pl) (n:=n) (m:=m) (.inl hm) hP Af h2 (‹a<7->a<10› hn) h)<|kc _ [4] (Yy (a:=K.r0) (b:=K.r1) (c:=K.r2) (d:=K.r3) (x:=m+1))<|kc _ [] (SE (st:=K.st))<|kz _ hz)
theorem Y1(hP:P.Ok)(Af:K.st<12)(h:σ.Ok ((Ev.bit .isMatch (K.st*16+K.pl%P.ps) ah:: .bit .jg K.st ao::qj P K.pl 2 4294967295).length+r)):
 LV 7 879 5 [.ref 0] (p0 K P σ) (bN (.ret .none)<|p0 {K with st:=aM K.st} P (σ.run<|Ev.bit .isMatch (K.st*16+K.pl%P.ps) ah:: .bit .jg K.st ao::qj P K.pl 2 4294967295)):=by
 exact qdQ.one rfl λpost hz=>(kc _ Bx (YG (K:=K) (P:=P) (σ:=σ) (r:=r) (pl:=K.pl) (n:=2) (m:=4294967295) (.inr rfl) hP Af (aA 2) (aa rfl) h)<|kc _ [] (SE (st:=K.st))<|kz _ hz)
theorem qeD{d:Nat}{n:Nat}:LV 1 893 26 [.ref 0,.tup [sS "match",.int d,.int n]] (p0 K P σ) (bN (.ret<|.int d)<|p0 K P σ):=qdR.one rfl λpost hz=>kz _ hz
end
section
variable{K:Pk}
theorem Tn{mt}(oy:K.pl=K.w.length)(hb:bf=Fj K.w)(hm:¬K.st<7->mt=(pN K.w K.r0).toNat):K.sE P (.lit o)=Ev.bit .isMatch (K.st*16+K.pl%P.ps) ao::(if K.st<7 then cE .literals (768*mj P K.pl bf) 1 (ja o 8) else fH (768*mj P K.pl bf) o mt 1 8):=by
 unfold Pk.sE;rw[qk,Ag, <-oy, <-hb];by_cases h:K.st<7
 . exact af (if_pos h)<|af (if_pos h) rfl
 . exact af (if_neg h)<|af (if_neg h)<|af (hm h) rfl
theorem Kz{w:List UInt8}:(w++[x]++r).getD w.length 0=x:=by
 refine af (jo (w:=w++[x]) (i:=w.length)<|by rw[aj];exact bH _)<|af (aW)<|af (fh<|aA _)<|af (cS _) ?_;rfl
theorem qeE(hP:P.Ok)(hK:K.Ok)(hs:s.Ok K.st K.r0 K.w)(hf:s≠ .fin)(ht:tx=K.w++s.oc K.w++rest)(hz:tx.length<=1000)(h:σ.Ok ((K.sE P s).length+r)):
 LV 11 900 26 [.ref 0,s.sh,.bytes tx,.int K.pl] (p0 K P σ) (bN (.ret<|.int (K.pl+s.len:Nat))<|p0 (K.go s) P<|σ.run<|K.sE P s):=by
 have oy:=hK.pl;have hl:tx.length=K.w.length+s.len+rest.length:=af ht<|af aj<|af aj<|af fN rfl;have N2:tx.length<=1000000:=‹a<=1000->a<=1000000› hz;have ju:K.pl+s.len<=tx.length:=‹a=b->c==b+d+e->a+d<=c› oy hl
 cases s with
 |lit o=>
  have ho:=hs.1
  have eo:(tx.getD ((K.pl:Nat):Int).toNat 0).toNat=o:=by
   rwa[af (bS _)<|af oy<|af ht<|af (show bZ.oc K.w (.lit o)=[bz o] from rfl)<|af Kz ?_,z9 ho]
  have hmt:¬K.st<7->(if K.st<7 then 0 else(tx.getD (K.pl-K.r0) 0).toNat:Nat)=(pN K.w K.r0).toNat:=λq=>by
   exact aT (hs.2<|a8 q) λa b=>(af (if_neg q)<|af oy<|af ht<|af (ax _ _ _)<|af (Fp a b) rfl)
  have hm2:(if K.st<7 then 0 else(tx.getD (K.pl-K.r0) 0).toNat:Nat)<256:=by
   split
   . decide
   . exact fW _
  have Kf:=qeB (σ:=σ) (K:=K) (P:=P) (tx:=tx) (λq=>by rwa[af oy,hs.2 q]) (‹a=b->c==b+d+e->a<=c› oy hl) N2;generalize(if K.st<7 then 0 else(tx.getD (K.pl-K.r0) 0).toNat:Nat)=mt at hmt hm2 Kf;have e:=Tn (K:=K) (P:=P) (o:=o) oy rfl hmt;rw[e] at h |-;erw [Xy.one rfl λpost hq=>(kc _ [] (YY (s:=.lit o) hs hf)<|k1 _ N2 ?_),kb _ (P:=(tx.length:Int)<(K.pl:Int)+(1:Nat)) (by have:K.pl+1<=tx.length:=ju;exact bO.mpr<|‹a+1<=b->b>=a+1› this)];by_cases h0:K.w.length=0
  . have F1:K.pl=0:=oy.trans h0
    have eb:Fj K.w=0:=if_pos h0;erw [kb _ (P:=(0:Int)<K.pl) (by erw [af F1];decide),k1 _ (P:=(0<=((K.pl:Nat):Int)/\((K.pl:Nat):Int)<tx.length)/\tx.length<=1000000) ⟨⟨aD _,by have:K.pl+1<=tx.length:=ju;exact aF.mpr<|‹a+1<=b->a<b› this⟩,N2⟩,kc _ Bx Kf,kC _ Bx (Y0 (K:=K) (P:=P) (σ:=σ) (r:=r) (o:=o) (bf:=0) (mt:=mt) hP hK.st ho (by decide) hm2<|by rw[eb] at h;exact h) ?_ (ha:=ig (b:=[.ref 0,.int (tx.getD ((K.pl:Nat):Int).toNat 0).toNat,.int 0,.int mt]) (by kernel_rfl)<|by rwa[af eo,_])];rw[eb] at hq;exact kz _ hq
  . have F1:(0:Int)<K.pl:=by lia
    have NO:=YX (tx:=tx) (a:=K.pl) (d:=1) (aA 1) (‹0<a->1<=a› (aF.mp F1)) (‹a=b->c==b+d+e->a<=c› oy hl) N2;have eb:Fj K.w=(pN K.w 1).toNat:=if_neg h0;rw[oy,show tx.getD (K.w.length-1) 0=pN K.w 1 by exact af ht<|af (ax _ _ _)<|af (Fp (aA 1)<|‹a=b->0<a->1<=b› oy (aF.mp F1)) rfl, <-eb, <-oy] at NO;rwa[ka _ F1<|kc _ [] NO ?_,k1 _ (P:=(0<=((K.pl:Nat):Int)/\((K.pl:Nat):Int)<tx.length)/\tx.length<=1000000) ⟨⟨aD _,by have:K.pl+1<=tx.length:=ju;exact aF.mpr<|‹a+1<=b->a<b› this⟩,N2⟩,kc _ Bx Kf,kC _ Bx (Y0 (K:=K) (P:=P) (σ:=σ) (r:=r) (o:=o) (bf:=Fj K.w) (mt:=mt) hP hK.st ho Kr hm2 h) ?_ (ha:=ig (b:=[.ref 0,.int (tx.getD ((K.pl:Nat):Int).toNat 0).toNat,.int (Fj K.w:Nat),.int mt]) (by kernel_rfl)<|by rwa[af eo,_]),kz _ hq]
 |mat d n=>
  erw [nn λzn=>?_,lE hs λaH u4 u5=>?_,-hs,lE aH λu1 u2 u3=>?_,zn,-zn,-aH];obtain⟨m,rfl⟩:∃m,d=m+1:=(qI (d-1)<|‹a+1==b->b=a+1› (ay u1));have ht2:tx=K.w++jG K.w (m+1) n++rest:=ht;have NN:=qez (w:=K.w) (r:=rest) (d:=m+1) (n:=n) u1 u2 (‹a<7->a<=1000› u5) (by rwa[dq ht2,‹a<=1000->a<=100000› hz]);rw[<-ht2, <-oy] at NN
  have e:K.sE P (.mat (m+1) n)=Ev.bit .isMatch (K.st*16+K.pl%P.ps) ah:: .bit .jg K.st ao::qj P K.pl n m:=by
   unfold Pk.sE;rw[qk, <-oy];rfl
  rw[e] at h |-;rwa[Xy.one rfl λpost hq=>(kc _ [] (YY (s:=.mat (m+1) n) (st:=K.st) (r0:=K.r0) (w:=K.w) ⟨(gp u1 u2 u3),u4,u5⟩ hf)<|k1 _ N2 ?_),kb _ (P:=(tx.length:Int)<(K.pl:Int)+(n:Nat)) (by have:K.pl+n<=tx.length:=ju;exact bO.mpr<|‹a+b<=c->c>=a+b› this),kc _ Bx (qeD (K:=K) (P:=P) (σ:=σ) (d:=m+1) (n:=n))<|kc _ Bx (YZ (K:=K) (P:=P) (σ:=σ) (d:=m+1) u1<|‹a==b->c+1<=b->c+1<=a› oy u2)<|kc _ [] NN<|kc _ Bx (qeC (K:=K) (P:=P) (σ:=σ) (r:=r) (m:=m) (n:=n) hP hK.st (‹a+1<32->a<31› u3) (‹a==b->c+1<=b->c+1<=a› oy u2) u4 u5 h)<|kz _ hq]
 |fin=>exact absurd rfl hf
end
def ohW(K:Pk)(P:Pr)(σ:St)(x:AO):List AO:=jC 1 (Fh 1 2 12 17) (m1<|g8 0 P σ.e.ms)<|HM K P σ++[x]
noncomputable def jO:List Nat:=[0,1,2,3,4,6,7,8,9,10,11,12,13,14,15,16,17,18,19,20,21,22,23,24,25,26]
section
variable{K:Pk}{P:Pr}
theorem sy{α:Type}{l:List α}{s}(h:l[i]? =ae s):l=l.take i++s::l.drop (i+1)/\l.take (i+1)=l.take i++[s]:=by
 rwa[c4 (bg.mp h) λhi e=>?_,!e,⟨by exact dq (z7 hi)<|af (dn _ _) rfl,List.take_succ_eq_append_getElem hi⟩]
theorem Y2(hP:P.Ok)(hT:Txt K l)(ht:tx=(K.goes l).w)(h:σ.Ok ((tvs P K l).length+r)):
 LV 13 907 6 [.ref 0,.ref 5,.bytes tx,.int K.pl] (ohW K P σ<|.lst<|l.map bZ.sh) (bN (.ret<|.int (K.goes l).pl)<|ohW (K.goes l) P (σ.run<|tvs P K l)<|.lst<|l.map bZ.sh):=by
 have hz:tx.length<=1000:=by rwa[af ht,bM<|aZ hT.end.w<|aa rfl]
 erw [qdS.one rfl λpost hq=>?_,V,kl _ (l.map bZ.sh) (λ(_:Unit) i=>True) (λz i=>[ae<|.ref 0,ae<|.ref 5,ae<|.bytes tx,ae<|.int K.pl,ae<|.int (K.goes<|l.take i).pl,aq]) (λz i=>ohW (K.goes<|l.take i) P (σ.run<|tvs P K<|l.take i) .gone) () trivial (λi u x hx z tu=>?_) (λu z=>?_)]
 . refine eX ?_;intro V;rw[dD] at hx
   erw [aK (c9.mp hx) λs hs aH=>?_,!aH,aT (sy hs) λe1 e2=>?_];have hT2:=hT;rw[e1] at hT2;refine QE hT2.at λt1 t2 t3 t4=>?_;have h2:=h;rw[e1,vo,tvs] at h2;have h3:=St.zG h2;have h4:=h3.le (r':=((K.goes<|l.take i).sE P s).length+0) (by erw [af aj];show((K.goes<|l.take i).sE P s).length+0<=(qk P _ _ _ s).length+_+r;show(qk P _ _ _ s).length+0<=_;exact‹a+0<=a+b+c›)
   have ht2:tx=(K.goes<|l.take i).w++s.oc (K.goes<|l.take i).w++aP ((K.goes<|l.take i).go s) (l.drop<|i+1):=by
    rw[ht,e1,BD,q9 (K:=K.goes<|l.take i), <-e1,aP,ax]
   have hk:=qeE (K:=K.goes<|l.take i) (σ:=σ.run<|tvs P K<|l.take i) (r:=0) hP t1 t2 t3 ht2 hz h4;have eg:K.goes (l.take<|i+1)=(K.goes<|l.take i).go s:=af e2<|af dY rfl;have ev:σ.run (tvs P K<|l.take<|i+1)=(σ.run<|tvs P K<|l.take i).run ((K.goes<|l.take i).sE P s):=af e2<|af BE<|af St.pZ rfl;have ep:(((K.goes<|l.take i).pl+s.len:Nat):Int)=((K.goes<|l.take<|i+1).pl:Nat):=by erw [af eg];cases s<;>rfl
   cases s with
   |lit o=>
    erw [kc _ jO hk];exact tu.by _ () trivial (λx=>[ae<|.ref 0,ae<|.ref 5,ae<|.bytes tx,ae<|.int K.pl,ae<|.int x,ae<|bZ.sh<|.lit o]) ep (hh:=by rwa[af eg<|af ev ?_,_])
   |mat d n=>
    erw [kc _ jO hk];exact tu.by _ () trivial (λx=>[ae<|.ref 0,ae<|.ref 5,ae<|.bytes tx,ae<|.int K.pl,ae<|.int x,ae<|bZ.sh<|.mat d n]) ep (hh:=by rwa[af eg<|af ev ?_,_])
   |fin=>exact absurd rfl t3
 . refine af (a3 _) (af dP ?_)
   exact kz _ hq
theorem qeF(hP:P.Ok)(hT:Txt K l)(ht:tx=(K.goes l).w)(h:σ.Ok ((tvs P K l).length+r)):
 LV 13 907 6 [.ref 0,.ref 5,.bytes tx,.int K.pl] (HM K P σ++[.lst<|l.map bZ.sh]) (bN (.ret<|.int (K.goes l).pl)<|HM (K.goes l) P (σ.run<|tvs P K l)++[.lst<|l.map bZ.sh]):=
 LV.oc 1 368 (o:=Fh 1 2 12 17) (os:=m1<|g8 0 P σ.e.ms) (o':=Fh 1 2 12 17) (os':=m1<|g8 0 P (σ.run<|tvs P K l).e.ms) (Y2 hP hT ht h) (e3:=by
   have e:(l.map bZ.sh).all (AV.cl λk=>iu k 6)=ah:=a4.mpr λx hx=>by obtain⟨s,-,rfl⟩:=dW.mp hx;cases s<;>rfl
   have hc:AO.cls 6 (b9 (HM (K.goes l) P (σ.run<|tvs P K l)++[.lst<|l.map bZ.sh]) [1])=ah:=by
    erw [af (show b9 (HM (K.goes l) P (σ.run<|tvs P K l)++[.lst<|l.map bZ.sh]) [1]=b9 (HM (K.goes l) P<|σ.run<|tvs P K l) [1]++[.lst<|l.map bZ.sh] from rfl)];unfold AO.cls AO.clh;exact af List.all_append (aQ.mpr ⟨by kernel_rfl,aQ.mpr ⟨e,rfl⟩⟩)
   exact aQ.mpr ⟨aQ.mpr ⟨aQ.mpr ⟨by kernel_rfl,hc⟩,by kernel_rfl⟩,by kernel_rfl⟩)
theorem qeG(hP:P.Ok)(hK:K.Ok)(h:σ.Ok ((K.sE P .fin).length+r)):
 LV 7 879 5 [.ref 0] (HM K P σ) (bN (.ret .none)<|HM (K.nx .fin) P<|σ.run<|K.sE P .fin):=by
 have oy:=hK.pl
 have e:K.sE P .fin=Ev.bit .isMatch (K.st*16+K.pl%P.ps) ah:: .bit .jg K.st ao::qj P K.pl 2 4294967295:=by
  unfold Pk.sE;rw[qk, <-oy]
 rw[e] at h |-;exact LV.oc 1 368 (o:=Fh 1 2 12 17) (os:=m1<|g8 0 P σ.e.ms) (o':=Fh 1 2 12 17) (os':=m1<|g8 0 P (σ.run _).e.ms)<|Y1 hP hK.st h
theorem qeH:LV 4 809 4 [.ref 0,.ref 1,.ref 2] [.inst 917 [aq,aq,aq,aq,aq],Al P σ.e.ms,.inst 1190 [ae<|.ref 3,ae<|.int σ.x.low,ae<|.int σ.e.span,ae<|.int σ.x.cache,ae<|.int σ.x.held,ae<|.bool ao],.ba<|ya σ.x.made] (bN (.ret .none)<|HM (bP aq) P σ):=by
 refine qdL.one rfl λpost hz=>?_
 refine kc _ [0,1,2,3] (show LV 1 725 4 [.ref 0,.ref 1,.ref 2] [.inst 917 [aq,aq,aq,aq,aq],Al P σ.e.ms,.inst 1190 [ae<|.ref 3,ae<|.int σ.x.low,ae<|.int σ.e.span,ae<|.int σ.x.cache,ae<|.int σ.x.held,ae<|.bool ao],.ba<|ya σ.x.made]
  (bN (.ret .none) [.inst 917 [ae<|.ref 1,ae<|.ref 2,aq,aq,aq],Al P σ.e.ms,.inst 1190 [ae<|.ref 3,ae<|.int σ.x.low,ae<|.int σ.e.span,ae<|.int σ.x.cache,ae<|.int σ.x.held,ae<|.bool ao],.ba<|ya σ.x.made]) from qdE.one rfl λpost hz=>kz _ hz) ?_
 exact kc _ [4] Yx<|kz _ hz
noncomputable def Y3(K:Pk)(P:Pr)(ms:MS):List AO:=[.inst 673 [ae<|.ref 1,ae<|.ref 2,ae<|wO K.mo,ae<|.int K.pl,ae<|.int K.st,ae<|.ref 4,ae<|.bool K.pY,ae<|.int K.rs],Al P ms,
 .inst 1000 [ae<|.int 64,ae<|.int K.w.length,ae<|.ref 3,ae<|.int K.w.length],.ba K.w,Cj K.r0 K.r1 K.r2 K.r3]
theorem N3:F2 eI (Y3 K P ms) (K.o P ms):=.cons (λω a g ⟨vs,h,x⟩=>⟨vs,(by
 cases h with |cons p1 h=>cases h with |cons p2 h=>cases h with | @cons _ v _ _ p3 h=>
 exact .cons p1<|.cons p2<|.cons (by
  cases e:K.mo with
  |none=>rw[e] at p3;cases v<;>exact p3
  |some n=>rw[e] at p3;cases v<;>exact p3) h),x⟩)<|F2.refl λz=>eI.rfl
theorem qeI:LV 4 614 4 [.ref 0,.ref 1,.ref 2,wO mo] [.inst 673 [aq,aq,aq,aq,aq,aq,aq,aq],Al P ms,.inst 1000 [ae<|.int 64,ae<|.int (0:Nat),ae<|.ref 3,ae<|.int (0:Nat)],.ba []] (bN (.ret .none)<|(bP mo).o P ms):=by
 have key:LV 4 614 4 [.ref 0,.ref 1,.ref 2,wO mo] [.inst 673 [aq,aq,aq,aq,aq,aq,aq,aq],Al P ms,.inst 1000 [ae<|.int 64,ae<|.int (0:Nat),ae<|.ref 3,ae<|.int (0:Nat)],.ba []] (bN (.ret .none)<|Y3 (bP mo) P ms):=by
  have NJ:∀mo,LV 3 480 4 [.ref 0,.ref 1,.ref 2,wO mo] [.inst 673 [aq,aq,aq,aq,aq,aq,aq,aq],Al P ms,.inst 1000 [ae<|.int 64,ae<|.int (0:Nat),ae<|.ref 3,ae<|.int (0:Nat)],.ba []] (bN (.ret .none) [.inst 673 [ae<|.ref 1,ae<|.ref 2,ae<|wO mo,ae<|.int 0,ae<|.int 0,ae<|.ref 4,ae<|.bool ao,aq],Al P ms,.inst 1000 [ae<|.int 64,ae<|.int (0:Nat),ae<|.ref 3,ae<|.int (0:Nat)],.ba [],Cj 1 1 1 1]):=λmo=>by
   cases mo<;>exact NJ.one rfl λpost hz=>kc _ [4] Yx<|kz _ hz
  cases mo with
  |none=>
   exact Xr.one rfl λpost hz=>(kc _ [0,1,2,3] (NJ aq)<|kz _ hz)
  |some m=>
   exact Xr.one rfl λpost hz=>(kc _ [0,1,2,3] (NJ<|ae m)<|kz _ hz)
 exact key.weak λr h e=>by
  rwa[aT e λaH cX=>?_,-e,!aH,!cX,⟨5,_,by exact nI rfl,rfl,qi.obj N3,aA 5,rfl,rfl⟩]
end
theorem kS{o:Option α}{x:α}{k:α->VC}(h:o=ae x)(r:(k x).G):(aX o k).G:=⟨nS h r.h⟩
noncomputable def lS(xs:List Int)(n:Nat):Nat:=match xs[n]? with |some x=>x.natAbs |none=>(5*n*n+3*n+2)%997
noncomputable def Dy(xs:List Int)(n:Nat):List AO:=[.lst [.ref 1,.int n],.ll<|xs.map .int]
noncomputable def UQ(xs:List Int)(n:Nat):List AO:=[.lst [.ref 1,.int n],.lst<|xs.map .int]
theorem wQ:∀{xs:List Int},AV.cls (λz=>ao) (xs.map AV.int)=ah
 |[]=>rfl
 |x::xs=>wQ (xs:=xs)
theorem Y4:F2 eI (Dy xs n) (UQ xs n):=.cons eI.rfl<|.cons zK .nil
theorem To:F2 eI (UQ xs n) (Dy xs n):=.cons eI.rfl<|.cons (p9 wQ) .nil
theorem gU{mi:Int}(em:mi=(many:Nat))(hm:0<many)(hx:xs.length<=1000)(hn:n<=100000):LV 2 1208 2 [.ref 0,.int mi] (Dy xs n) (bN (.ret<|.int (lS xs n%many:Nat))<|Dy xs<|n+1):=by
 subst em
 have key:LV 2 1208 2 [.ref 0,.int many] (UQ xs n) (bN (.ret<|.int (lS xs n%many:Nat))<|UQ xs<|n+1):=by
  have hm0:(many:Int)≠0:=λzq=>‹0<a->a&&0->0==0› hm zq;erw [XW.one rfl λpost hz=>(k1 _ (P:=(decide ((0:Int)<=1)&&decide ((1:Int)<2 ^ 63))=ah) rfl<|k1 _ (P:=(0:Int)<=1/\(1:Int)<2 ^ 63/\(1:Int)<(2:Nat)) (by decide)<|k1 _ (P:=(decide ((0:Int)<=0)&&decide ((0:Int)<2 ^ 63))=ah) rfl ?_),k1 _ (P:=(xs.map AV.int).length<=1000000) (by rwa[af (a3 _),‹a<=1000->a<=1000000› hx]),kf _ (P:=(n:Int)<(xs.map AV.int).length) (λh=>?_) λh=>?_]
  . rw[a3] at h
    have h:n<xs.length:=aF.mp h;have e1:xs[n]? =ae xs[n]:=aI h;have e2:(xs.map AV.int)[((n:Nat):Int).toNat]? =ae (.int xs[n]):=by refine af (bS _)<|af (dD)<|af e1 ?_;rfl
    have e3:(if xs[n]<0 then-xs[n] else xs[n]).fmod many=((lS xs n%many:Nat):Int):=by
     have e4:(if xs[n]<0 then-xs[n] else xs[n])=(xs[n].natAbs:Int):=by
      by_cases q:xs[n]<0
      . exact(if_pos q).trans (Int.ofNat_natAbs_of_nonpos<|Int.le_of_lt q).symm
      . exact(if_neg q).trans (Int.natAbs_of_nonneg<|bO.mp q).symm
     erw [af e4];unfold lS;refine af e1<|af (ma _<|aD _) ?_;rfl
    rwa[k1 _ (P:=(decide ((0:Int)<=0)&&decide ((0:Int)<2 ^ 63))=ah) rfl,k1 _ (P:=(decide ((0:Int)<=n)&&decide ((n:Int)<2 ^ 63))=ah) (by rw[decide_eq_true (by exact‹a>=0›:(0:Int)<=n),decide_eq_true (by lia:(n:Int)<2 ^ 63)];rfl),kS e2<|k1 _ hm0 ?_,kz _ (P:=post (.ret<|.int<|(if xs[n]<0 then-xs[n] else xs[n]).fmod many)<|UQ xs<|n+1)<|by rwa[af e3,hz]]
  . rw[a3] at h
    have h:¬n<xs.length:=λq=>h<|aF.mpr q;have e1:xs[n]? =aq:=dp<|a8 h
    have e3:((5*(n:Int)*n+3*n+2).fmod 997).fmod many=((lS xs n%many:Nat):Int):=by
     unfold lS;refine af e1 (af (ma _<|aD _)<|af (ma _<|by decide) ?_)
     push_cast;rfl
    rwa[k1 _ (mulR (a:=5) (b:=n)<|by lia) (k1 _ (mulR (a:=5*(n:Int)) (b:=n)<|by lia)<|k1 _ (mulR (a:=3) (b:=n)<|by lia)<|k1 _ (P:=(997:Int)≠0) (by decide)<|k1 _ hm0 ?_),kz _ (P:=post (.ret<|.int<|((5*(n:Int)*n+3*n+2).fmod 997).fmod many)<|UQ xs<|n+1)<|by rwa[af e3,hz]]
 rwa[(key.from Y4).weak λr h e=>?_,aT e λaH cX=>?_,-e,!aH,!cX,⟨2,_,aA 2,rfl,qi.obj To,aA 2,rfl,rfl⟩]
def bZ.en(s:bZ):AV:=.tup [s.sh,.int s.len]
theorem BF:∀{n:Nat} {w:List UInt8},jG w d (n+1)=jG w d n++[pN (w++jG w d n) d]
 |0,w=>by rw[jG,jG,bD];rfl
 |n+1,w=>by
  have h:=BF (d:=d) (n:=n) (w:=w++[pN w d]);rw[show jG w d (n+1+1)=pN w d::jG (w++[pN w d]) d (n+1) from rfl,h,show jG w d (n+1)=pN w d::jG (w++[pN w d]) d n from rfl,ax];rfl
def RD(K:Pk):Prop:=7<=K.st->1<=K.r0/\K.r0<=K.w.length
theorem RD.go{K:Pk}(h:K.st<12)(hs:s.Ok K.st K.r0 K.w)(hf:s≠ .fin):RD (K.go s):=by
 cases s with
 |lit o=>
  intro q;have q:7<=aL K.st:=q;unfold aL at q;by_cases a:K.st<4
  . rw[if_pos a] at q;exact absurd q (by decide)
  . rw[if_neg a] at q
    by_cases b:K.st<10
    . rw[if_pos b] at q;exact cq<|‹7<=a->b<10->a+3=b->0==0› q b (ay<|‹(7<=a)^3->(a<=b)^3->(3<=b)^7› q (dk _ _))
    . rw[if_neg b] at q;exact cq<|‹a<12->7<=b->b+6=a->(0==0)^2› h q (ay<|‹(7<=a)^6->(a<=b)^6->(6<=b)^7› q (dk _ _))
 |mat d n=>exact λz=>⟨hs.1.1,by rwa[af SU<|af aj ?_,az hs.1.2.1<|aU _ _]⟩
 |fin=>exact absurd rfl hf
structure Tp(K:Pk)(l:List bZ)(i:Nat):Prop where
 s:xh K l
 n:(aP K l).length<=6*i
 i:l.length=i
 r:RD (K.goes l)
def PV(K:Pk)(xs:List Int)(n:Nat)(r:AR)(h:List AO):Prop:=∃l i n',Tp K l i/\(1<=i/\i<=6)/\n'<=n+40/\r= .ret (.tup [.ref 2,.bytes<|aP K l])/\h=Dy xs n'++[.ll<|l.map bZ.en]
def KA(K:Pk)(xs:List Int)(n:Nat)(r:AR)(h:List AO):Prop:=∃l i n',Tp K l i/\(1<=i/\i<=6)/\n'<=n+40/\r= .ret (.tup [.ref 2,.bytes<|aP K l])/\h=Dy xs n'++[.lst<|l.map bZ.en,.ba<|aP K l]
theorem Dz:∀{l:List bZ},AV.cls (λz=>ao) (l.map bZ.en)=ah
 |[]=>rfl
 |s::l=>aQ.mpr ⟨by cases s<;>rfl,Dz (l:=l)⟩
theorem LV.text{hp:List AO}{K:Pk}(hm:m<=3)(k:LV n f m args hp (KA K xs a)):LV n f m args hp (PV K xs a):=
 k.weak λr h q=>by
   rwa[mq q λl i n' q1 q2 q3 aH cX=>?_,-q,!aH,!cX,⟨3,Dy xs n'++[.ll<|l.map bZ.en],hm,rfl,?_,(aa rfl:3<=4),l,i,n',q1,q2,q3,rfl,rfl⟩,λC ω R s h1 h2 H=>?_,dh (qi.gc (h0:=Dy xs n'++[.ll<|l.map bZ.en]) (g:=[.ba<|aP K l]) (m:=3) (by kernel_rfl) (by show 3<=3;exact aA _) C ω R s h1 h2<|H.oW<|F2.append (vn<|F2.append (F2.refl λz=>eI.rfl)<|.cons (p9 Dz)<|.cons eI.rfl .nil) F2.dK) λip a2 l2 H2=>?_,(oK ip a2 l2 H2)]
theorem Tp.snoc{K:Pk}{i:Nat}{s:bZ}(h:Tp K l i)(hK:K.PR)(hf:s≠ .fin)(hs:s.Ok (K.goes l).st (K.goes l).r0 (K.goes l).w)(h6:s.len<=6):Tp K (l++[s]) (i+1):=
 ⟨nA.mpr ⟨h.s,⟨hf,hs⟩,trivial⟩,by refine af dZ<|af aj<|af fN ?_;have:=h.n;exact‹a<=6->b<=6*c->b+a<=6*(c+1)› h6 this,by refine af aj<|af h.i ?_;rfl,by rwa[af dY,RD.go (sx hK).st hs hf]⟩
theorem Y5(hx:xs.length<=1000)(hn:n<=50000):LV 4 1215 2 [.ref 0] (Dy xs n) (PV (bP mo) xs n):=by
 have hK:(bP mo).PR:=⟨rfl,by show 0<12;exact aN _⟩;erw [LV.text (by exact nI rfl)<|XX.gen rfl ?_,kc _ [0,1] (gU (xs:=xs) (n:=n) (many:=6) rfl (by exact eJ _) hx<|by exact‹a<=50000->a<=100000› hn)];have ht:=bA (lS xs n) (by exact eJ _:6>0);generalize lS xs n%6=t at ht |-;refine kr _ (1+t) _ (λ(s:List bZ×Nat) i=>Tp (bP mo) s.1 i/\s.2<=n+1+4*i) (λs i=>[ae<|.ref 0,ae<|.ref 2,ae<|.ref 3,aq,aq,aq,aq]) (λs i=>Dy xs s.2++[.lst<|s.1.map bZ.en,.ba<|aP (bP mo) s.1]) ([],n+1) (l5.up (n:=1+t)<|by exact‹a<6->1+a<=1000000› ht) ⟨⟨trivial,cM _,rfl,λq=>absurd q<|by show ¬7<=0;exact nofun⟩,aA _⟩ (λi s hi hs tu=>?_) λs hs=>?_
 . refine eX ?_;intro V;obtain⟨l,n1⟩:=s
   obtain⟨hl,F3⟩:=hs;have F3:n1<=n+1+4*i:=F3;have hw:((bP mo).goes l).w=aP (bP mo) l:=q9;have hz:(aP (bP mo) l).length<=6*i:=hl.n;have N2:(aP (bP mo) l).length<=1000000:=by exact‹(a<6)^6->(b<1+a)^6->c<=6*b->c<=1000000› ht hi hz
   have Ma:(l.map bZ.en).length<1000000:=by rwa[af (a3 _)<|af hl.i ?_,‹a<6->b<1+a->b<1000000› ht hi]
   erw [k1 _ N2,kf _ (P:=((aP (bP mo) l).length:Int)=0) (λa=>?_) λa=>?_]
   . refine eX ?_;intro V;refine eX ?_;intro V;refine k1 _ Ma ?_
     erw [kc _ [0,1] (gU (xs:=xs) (n:=n1) (many:=256) rfl (by exact eJ _) hx<|by exact‹a<=50000->(b<6)^4->(c<1+b)^4->d<=a+1+4*c->d<=100000› hn ht hi F3)];have ho:=bA (lS xs<|n1) (by exact eJ _:256>0);generalize lS xs (n1)%256=o at ho |-;erw [k1 _ (P:=(0<=(o:Int)/\(o:Int)<256)/\(aP (bP mo) l).length<1000000) ⟨⟨aD _,aF.mpr ho⟩,by exact‹(a<6)^6->(b<1+a)^6->c<=6*b->c<1000000› ht hi hz⟩];exact tu.at _ (l++[.lit o],n1+1) ⟨hl.snoc hK (λq=>nomatch q) ⟨ho,hl.r⟩ (by show 1<=6;exact aN _),by show n1+1<=_;exact‹a<=b+1+4*c->a+1<=b+1+4*(c+1)› F3⟩ (hh:=by rwa[af cN<|af dZ ?_,_])
   . refine eX ?_;intro V;have uV:0<(aP (bP mo) l).length:=tY λq=>a (by refine af q ?_;rfl)
     erw [kc _ [0,1] (gU (xs:=xs) (n:=n1) (many:=3) rfl (by exact eJ _) hx<|by exact‹a<=50000->(b<6)^4->(c<1+b)^4->d<=a+1+4*c->d<=100000› hn ht hi F3),kf _ (P:=((lS xs n1%3:Nat):Int)=0) (λb=>?_) λb=>?_]
     . refine eX ?_;intro V;refine eX ?_;intro V;refine k1 _ Ma ?_
       erw [kc _ [0,1] (gU (xs:=xs) (n:=n1+1) (many:=256) rfl (by exact eJ _) hx<|by exact‹a<=50000->(b<6)^4->(c<1+b)^4->d<=a+1+4*c->d+1<=100000› hn ht hi F3)];have ho:=bA (lS xs<|n1+1) (by exact eJ _:256>0);generalize lS xs (n1+1)%256=o at ho |-;erw [k1 _ (P:=(0<=(o:Int)/\(o:Int)<256)/\(aP (bP mo) l).length<1000000) ⟨⟨aD _,aF.mpr ho⟩,by exact‹(a<6)^6->(b<1+a)^6->c<=6*b->c<1000000› ht hi hz⟩];exact tu.at _ (l++[.lit o],n1+1+1) ⟨hl.snoc hK (λq=>nomatch q) ⟨ho,hl.r⟩ (by show 1<=6;exact aN _),by show n1+1+1<=_;exact‹a<=b+1+4*c->a+1+1<=b+1+4*(c+1)› F3⟩ (hh:=by rwa[af cN<|af dZ ?_,_])
     . refine eX ?_;intro V;refine eX ?_;intro V;refine k1 _ N2 ?_
       erw [kc _ [0,1] (gU (xs:=xs) (n:=n1+1) (many:=(aP (bP mo) l).length) rfl uV hx<|by exact‹a<=50000->(b<6)^4->(c<1+b)^4->d<=a+1+4*c->d+1<=100000› hn ht hi F3)];have h1:=bA (lS xs<|n1+1) uV;generalize lS xs (n1+1)%(aP (bP mo) l).length=t1 at h1 |-;erw [kc _ [0,1] (gU (xs:=xs) (n:=n1+1+1) (many:=5) rfl (by exact eJ _) hx<|by exact‹a<=50000->(b<6)^4->(c<1+b)^4->d<=a+1+4*c->d+1+1<=100000› hn ht hi F3)];have h2:=bA (lS xs<|n1+1+1) (by exact eJ _:5>0);generalize lS xs (n1+1+1)%5=t2 at h2 |-;erw [k1 _ Ma]
       refine kr _ (2+t2) _ (λ(_:Unit) j=>True) (λy j=>[ae<|.ref 0,ae<|.ref 2,ae<|.ref 3,aq,ae<|.int (1+t1:Nat),ae<|.int (2+t2:Nat),aq]) (λy j=>Dy xs (n1+1+1+1)++[.lst<|l.map bZ.en++[bZ.en<|.mat (1+t1)<|2+t2],.ba<|aP (bP mo) l++jG (aP (bP mo) l) (1+t1) j]) () (l5.up (n:=2+t2)<|by exact‹a<5->2+a<=1000000› h2) trivial (λj u hj y tv=>?_) (λu y=>?_)
        (hh:=ig (b:=Dy xs (n1+1+1+1)++[.lst<|l.map bZ.en++[bZ.en<|.mat (1+t1)<|2+t2],.ba<|aP (bP mo) l]) (by kernel_rfl)<|by exact af (show jG (aP (bP mo) l) (1+t1) 0=[] from rfl)<|af (bD _) rfl)
       . refine eX ?_;intro V;have fX:(aP (bP mo) l++jG (aP (bP mo) l) (1+t1) j).length=(aP (bP mo) l).length+j:=by exact af aj (af pX rfl)
         have eg:(aP (bP mo) l++jG (aP (bP mo) l) (1+t1) j)[(if-((1:Int)+(t1:Nat))<0 then-((1:Int)+(t1:Nat))+(aP (bP mo) l++jG (aP (bP mo) l) (1+t1) j).length else-((1:Int)+(t1:Nat))).toNat]? =ae (pN (aP (bP mo) l++jG (aP (bP mo) l) (1+t1) j)<|1+t1):=by
          erw [af (if_pos<|by exact‹0>-(1+a)›)<|af fX ?_,af (show(-((1:Int)+(t1:Nat))+((aP (bP mo) l).length+j:Nat)).toNat=(aP (bP mo) l).length+j-(1+t1) by rw[uQ, <-Int.sub_eq_add_neg];exact Int.toNat_sub ((aP (bP mo) l).length+j)<|1+t1)];unfold pN;refine af (aW) (af fX<|af (aI<|by rw[fX];exact‹a+(1+b)=c+d->a<c+d› (ay<|‹a<b->1+a<=b+c› h1)) ?_);rfl
         rwa[k1 _ (P:=(-(((aP (bP mo) l++jG (aP (bP mo) l) (1+t1) j).length:Nat):Int)<= -((1:Int)+(t1:Nat))/\ -((1:Int)+(t1:Nat))<((aP (bP mo) l++jG (aP (bP mo) l) (1+t1) j).length:Nat))/\(aP (bP mo) l++jG (aP (bP mo) l) (1+t1) j).length<=1000000) (by rwa[af fX,⟨⟨by exact‹a<b->-(1+a)>=-(b+c)› h1,by exact‹b+c>-(1+a)›⟩,by exact‹(a<6)^6->(b<1+a)^6->c<=6*b->d<5->e<2+d->c+e<=1000000› ht hi hz h2 hj⟩]),kS eg,k1 _ (P:=(0<=((pN (aP (bP mo) l++jG (aP (bP mo) l) (1+t1) j)<|1+t1).toNat:Int)/\((pN (aP (bP mo) l++jG (aP (bP mo) l) (1+t1) j)<|1+t1).toNat:Int)<256)/\(aP (bP mo) l++jG (aP (bP mo) l) (1+t1) j).length<1000000) ⟨⟨aD _,aF.mpr<|fW _⟩,by rwa[af fX,‹(a<6)^6->(b<1+a)^6->c<=6*b->d<5->e<2+d->c+e<1000000› ht hi hz h2 hj]⟩,tv.at _ () trivial (hh:=ig (b:=Dy xs (n1+1+1+1)++[.lst<|l.map bZ.en++[bZ.en<|.mat (1+t1)<|2+t2],.ba<|(aP (bP mo) l++jG (aP (bP mo) l) (1+t1) j)++[bz (pN (aP (bP mo) l++jG (aP (bP mo) l) (1+t1) j)<|1+t1).toNat]]) (by kernel_rfl)<|by exact af HV<|af BF<|af (ax _ _ _) rfl)]
       . refine eX ?_;intro V;have hs:bZ.Ok ((bP mo).goes l).st ((bP mo).goes l).r0 ((bP mo).goes l).w (.mat (1+t1)<|2+t2):=by refine af hw ?_;exact⟨(gp (by exact aU _ _) (by exact‹a<b->1+a<=b› h1)<|by exact‹(a<6)^6->(b<1+a)^6->c<=6*b->d<c->1+d<32› ht hi hz h1),by exact aU _ _,by exact‹a<5->2+a<7› h2⟩
         exact tu.at _ (l++[.mat (1+t1)<|2+t2],n1+1+1+1) ⟨hl.snoc hK (λq=>nomatch q) hs (by show 2+t2<=6;exact‹a<5->2+a<=6› h2),by show n1+1+1+1<=_;exact‹a<=b+1+4*c->a+1+1+1<=b+1+4*(c+1)› F3⟩ (hh:=by rwa[af cN<|af dZ<|af hw ?_,_])
 . refine eX ?_;intro V;obtain⟨l,n1⟩:=s
   obtain⟨hl,F3⟩:=hs;have F3:n1<=n+1+4*(1+t):=F3;have hz:(aP (bP mo) l).length<=6*(1+t):=hl.n;exact k1 _ (P:=(aP (bP mo) l).length<=1000000) (by exact‹(a<6)^6->b<=6*(1+a)->b<=1000000› ht hz) (kz _ (P:=KA (bP mo) xs n (.ret<|.tup [.ref 2,.bytes<|aP (bP mo) l])<|Dy xs n1++[.lst<|l.map bZ.en,.ba<|aP (bP mo) l])<|⟨l,1+t,n1,hl,⟨by exact aU _ _,by exact‹a<6->1+a<=6› ht⟩,by exact‹(a<6)^4->b<=c+1+4*(1+a)->b<=c+40› ht F3,rfl,rfl⟩)
noncomputable def ir(a b c:Nat):AV:=.tup [.int a,.int b,.int c]
theorem Y6:LV 1 1201 0 [] [] (bN (.ret<|.ref 0) [.lst [ir 3 0 2,ir 0 0 0,ir 0 2 1,ir 1 1 0,ir 2 0 4]]):=XU.one rfl λpost hz=>kz _ hz
noncomputable def jL:List Nat:=[1,0,2,3,4,5,6,7,8,9,10,11,12,13,14,15,16,17,18,19,20,21]
theorem PW(h:P.Ok):LV 9 1222 0 [ir P.lc P.lp P.pb] [] (bN (.ret<|.ref 0) [Al P nN]):=by
 have h1:P.lc<=8:=az (aU _ _)<|az h.l<|aa rfl;have h2:P.lp<=4:=az (dG _ _)<|az h.l<|aa rfl
 have key:LV 9 1222 0 [ir P.lc P.lp P.pb] [] (bN (.ret<|.ref 0)<|g8 0 P nN):=by
  refine LV.sel (post':=bN (.ret<|.ref 1)<|qG [P.o,.gone] [1,0] (AO.mps (i4 [1,0] 2)<|(g8 0 P nN).take 2)++AO.mps (i4 [1,0] 2) ((g8 0 P nN).drop 2)) (XY.one rfl λpost hz=>?_) ?_
  . refine kc _ [0] (qea (lc:=P.lc) (lp:=P.lp) (pb:=P.pb) h1 h2 h.p) ?_
    exact kc _ [1,0] (qee h)<|kz _ hz
  . rintro r h' ⟨rfl,rfl⟩
    exact⟨jL,.ret<|.ref 0,g8 0 P nN,Sel.of rfl (by kernel_rfl),rfl,rfl,rfl⟩
 exact LV.shut key λr1 h1 q=>by
  rwa[aT q λaH cX=>?_,-q,!aH,!cX,⟨0,368,Fh 1 2 12 17,m1<|g8 0 P nN,[Al P nN],by kernel_rfl,⟨rfl,rfl,by kernel_rfl⟩,rfl,rfl⟩]
section
variable{K:Pk}{D:Dc}
noncomputable def rf(K:Pk)(D:Dc):List AV:=[.int D.x.place,.int D.x.code,.int D.x.span,.int K.pl,.int K.st,.bool K.pY,.bytes K.w]
theorem wR(hw:K.w.length<64):LV 4 1241 6 [.ref 5,.ref 0] (eU K P D) (bN (.ret<|.ref 6)<|eU K P D++[.lst<|rf K D]):=by
 exact X0.one rfl λpost hz=>(kc _ [2,3] (Dt (w:=K.w) hw)<|kz _ hz)
open Classical in
def BG(K:Pk):List bZ->List bZ
 |[]=>[]
 |s::l=>if K.fit s.len then s::BG (K.go s) l else[]
open Classical in
theorem KC{K}{s}{l}:BG K (s::l)=(if K.fit s.len then s::BG (K.go s) l else[]):=rfl
theorem tN:∀{pre:List bZ} {K:Pk} {s:bZ} {m:List bZ},uL K pre->¬(K.goes pre).fit s.len->BG K (pre++s::m)=pre
 |[],K,s,m,_,h=>if_neg h
 |p::pre,K,s,m,hf,h=>by
  rw[f7,KC,if_pos hf.1,tN (pre:=pre) hf.2 h]
theorem sA:∀{l:List bZ} {K:Pk},uL K l->BG K l=l
 |[],K,_=>rfl
 |s::l,K,h=>by rw[KC,if_pos h.1,sA h.2]
theorem zL:∀{l:List bZ} {K:Pk},(K.goes l).mo=K.mo
 |[],K=>rfl
 |s::l,K=>(zL (l:=l) (K:=K.go s)).trans PQ
end
theorem PX(hl:xh (bP mo) l):LV 2 1260 1 [.ref 0,wO mo] [.ll<|l.map bZ.en] (bN (.ret<|.int ((bP mo).goes<|BG (bP mo) l).pl) [.ll<|l.map bZ.en]):=by
 have key:LV 2 1260 1 [.ref 0,wO mo] [.lst<|l.map bZ.en] (bN (.ret<|.int ((bP mo).goes<|BG (bP mo) l).pl) [.lst<|l.map bZ.en]):=by
  have step:∀{i:Nat} {s:bZ},l[i]? =ae s->s≠ .fin:=λ{i s} h=>by
   obtain⟨e,-⟩:=sy h;rw[e] at hl;exact(nA.mp hl).2.1.1
  cases mo with
  |none=>
   have hk:∀(l:List bZ) (K:Pk),K.mo=aq->uL K l:=λl=>by
    induction l with
    |nil=>exact λy y=>trivial
    |cons s l ih=>exact λK h=>⟨by unfold Pk.fit;erw [af h];trivial,ih _<|PQ.trans h⟩
   erw [af (sA<|hk l (bP aq) rfl)<|Px.one rfl λpost hz=>?_,kl _ (l.map bZ.en) (λ(_:Unit) i=>True) (λy i=>[ae<|.ref 0,ae .none,ae<|.int ((bP aq).goes<|l.take i).pl,aq,aq]) (λy i=>[.gone]) () trivial (λi u x hx y tu=>?_) (λu y=>?_)]
   . rw[dD] at hx
     erw [aK (c9.mp hx) λs hs aH=>?_,!aH];have e2:=(sy hs).2;have hf:=step hs;have ep:((((bP aq).goes<|l.take i).pl:Nat):Int)+(s.len:Nat)=(((bP aq).goes<|l.take<|i+1).pl:Nat):=by refine af e2<|af dY ?_;cases s<;>rfl
     cases s with
     |lit o=>exact tu.by _ () trivial (λx=>[ae<|.ref 0,ae .none,ae<|.int x,ae<|bZ.sh<|.lit o,ae<|.int (1:Nat)]) ep
     |mat d n=>exact tu.by _ () trivial (λx=>[ae<|.ref 0,ae .none,ae<|.int x,ae<|bZ.sh<|.mat d n,ae<|.int n]) ep
     |fin=>exact absurd rfl hf
   . refine af (a3 _) (af dP ?_)
     exact kz _ hz
  |some m=>
   erw [Px.one rfl λpost hz=>?_,kl _ (l.map bZ.en) (λ(_:Unit) i=>uL (bP<|ae m)<|l.take i) (λy i=>[ae<|.ref 0,ae<|.int m,ae<|.int ((bP<|ae m).goes<|l.take i).pl,aq,aq]) (λy i=>[.gone]) () trivial (λi u x hx Va tu=>?_) (λu Va=>?_)]
   . rw[dD] at hx
     erw [aK (c9.mp hx) λs hs aH=>?_,!aH,aT (sy hs) λe1 e2=>?_];have hf:=step hs;have HD:((bP<|ae m).goes<|l.take i).fit s.len↔((bP<|ae m).goes<|l.take i).pl+s.len<=m:=by unfold Pk.fit;rwa[af zL,fq]
     have ep:((((bP<|ae m).goes<|l.take i).pl:Nat):Int)+(s.len:Nat)=(((bP<|ae m).goes<|l.take<|i+1).pl:Nat):=by refine af e2<|af dY ?_;cases s<;>rfl
     have no:¬((bP<|ae m).goes<|l.take i).pl+s.len<=m->post (.ret<|.int ((bP<|ae m).goes<|l.take i).pl) [.lst<|l.map bZ.en]:=λq=>by
      have h2:=tN (m:=l.drop<|i+1) Va λz=>q<|HD.mp z;rw[<-e1] at h2;rw[h2] at hz;exact hz
     cases s with
     |lit o=>
      refine kf _ (P:=(m:Int)<(((bP<|ae m).goes<|l.take i).pl:Int)+(1:Nat)) (λa=>?_) λa=>?_
      . exact kz _ (no<|by simp only[bZ.len];exact om<|‹b+1>a->a<b+1› a)
      . exact tu.by _ () (by rwa[af e2,gu (s:=.lit o) Va<|HD.mpr<|by simp only[bZ.len];exact‹b>=a+1->a+1<=b› (bO.mp a)]) (λx=>[ae<|.ref 0,ae<|.int m,ae<|.int x,ae<|bZ.sh<|.lit o,ae<|.int (1:Nat)]) ep
     |mat d n=>
      refine kf _ (P:=(m:Int)<(((bP<|ae m).goes<|l.take i).pl:Int)+(n:Nat)) (λa=>?_) λa=>?_
      . exact kz _ (no<|by simp only[bZ.len];exact om<|‹b+c>a->a<b+c› a)
      . exact tu.by _ () (by rwa[af e2,gu (s:=.mat d n) Va<|HD.mpr<|by simp only[bZ.len];exact‹c>=a+b->a+b<=c› (bO.mp a)]) (λx=>[ae<|.ref 0,ae<|.int m,ae<|.int x,ae<|bZ.sh<|.mat d n,ae<|.int n]) ep
     |fin=>exact absurd rfl hf
   . rw[a3,dP] at Va |-
     rw[sA Va] at hz;exact kz _ hz
 rwa[(key.from<|.cons zK .nil).weak λr h e=>?_,aT e λaH cX=>?_,-e,!aH,!cX,⟨1,_,aA 1,rfl,qi.obj<|.cons (p9 Dz) .nil,aA 1,rfl,rfl⟩]
def k8(K:Pk)(P:Pr)(D:Dc)(l:List bZ)(b:Bool)(way:Nat)(r:AR)(h:List AO):Prop:=
 (uL K l/\((way=1/\r= .ret (.ref 6)/\h=eU (K.fi l b) P (K.dE P D l b)++[.ll<|l.map bZ.sh])\/(way≠1/\r= .ret (.bytes<|aP K l)/\h=eU (K.fi l b) P (K.dE P D l b))))\/(∃K' D',h=eU K' P D'/\yI K l K'/\r= .exc 138)
section
variable{K:Pk}
theorem Pk.Rd.f(h:K.Rd P D l b):K.Rd P D l ao:=⟨h.p,h.t,let⟨ex,hd⟩:=h.d;⟨zJ P (K.goes l) b++ex,hd⟩⟩
theorem Y7{way:Nat}(Tq:way<4)(hr:K.rs=0)(hm:K.pY=ao)(h:K.Rd P D l b):LV 15 1253 6 [.int way,.ref 5,.ref 0,.bytes<|aP K l,.bool b] (eU K P D) (k8 K P D l b way):=by
 have hz:(aP K l).length<=1000000:=az (bM<|p8 h.t) (by decide)
 have kt0:∀{w:Nat} {K':Pk} {D':Dc} {r:AR},w≠1->TQ K P D l b r K' D'->k8 K P D l b w r (eU K' P D'):=λ{w K' D' r} hw q=>by
  rcases q with⟨q1,rfl,rfl,rfl⟩ |⟨q1,rfl⟩
  . exact .inl ⟨q1,.inr<|gp hw rfl rfl⟩
  . exact .inr<|qJ _ _ rfl q1 rfl
 have ks0:∀{r:AR} {h:List AO},Fo K P D l b r h->k8 K P D l b 1 r h:=λ{r h} q=>by
  rcases q with⟨q1,rfl,rfl⟩ |⟨K',D',rfl,q,rfl⟩
  . exact .inl ⟨q1,.inl<|gp rfl rfl rfl⟩
  . exact .inr<|qJ _ _ rfl q rfl
 refine Vm Tq ?_ ?_ ?_ ?_
 . skip
   cases b with
   |true=>
    erw [uo.gen rfl<|ka _ (P:=((0:Nat):Int)=0) rfl<|kg _ j6 (YN hr hm h) λr hh q=>?_,V];obtain⟨K',D',rfl,q⟩:=q;rcases q with⟨q1,rfl,q3,q4⟩ |⟨q1,rfl⟩
    . exact kz _ (P:=k8 K P D l ah 0 (.ret<|.bytes<|aP K l)<|eU K' P D') (kt0 (by decide)<|.inl<|mT q1 rfl q3 q4)
    . exact kz _ (P:=k8 K P D l ah 0 (.exc 138)<|eU K' P D') (kt0 (by decide)<|.inr ⟨q1,rfl⟩)
   |false=>
    erw [uo.gen rfl<|k1 _ hz<|ka _ (P:=((0:Nat):Int)=0) rfl<|kg _ j6 (Ky hr hm h) λr hh q=>?_,V];obtain⟨K',D',rfl,q⟩:=q;rcases q with⟨q1,rfl,q3,q4⟩ |⟨q1,rfl⟩
    . exact kz _ (P:=k8 K P D l ao 0 (.ret<|.bytes<|aP K l)<|eU K' P D') (kt0 (by decide)<|.inl<|mT q1 rfl q3 q4)
    . exact kz _ (P:=k8 K P D l ao 0 (.exc 138)<|eU K' P D') (kt0 (by decide)<|.inr ⟨q1,rfl⟩)
 . skip
   cases b with
   |true=>
    erw [uo.gen rfl,kb _ (P:=((1:Nat):Int)=0) (by decide)<|ka _ (P:=((1:Nat):Int)=1) rfl ?_,kg _ j6 (YO hr hm h) λr hh q=>?_,V];have q':=ks0 q;rcases q with⟨q1,rfl,rfl⟩ |⟨K',D',rfl,q,rfl⟩
    . exact kz _ q'
    . exact kz _ q'
   |false=>
    erw [uo.gen rfl<|k1 _ hz ?_,kb _ (P:=((1:Nat):Int)=0) (by decide)<|ka _ (P:=((1:Nat):Int)=1) rfl ?_,kg _ j6 (YR hr hm h) λr hh q=>?_,V];have q':=ks0 q;rcases q with⟨q1,rfl,rfl⟩ |⟨K',D',rfl,q,rfl⟩
    . exact kz _ q'
    . exact kz _ q'
 . skip
   cases b with
   |true=>
    erw [uo.gen rfl,kb _ (P:=((2:Nat):Int)=0) (by decide) (kb _ (P:=((2:Nat):Int)=1) (by decide)<|ka _ (P:=((2:Nat):Int)=2) rfl ?_),k1 _ hz<|kg _ j6 (YW hr hm h) λr hh q=>?_,V];obtain⟨K',D',rfl,q⟩:=q;rcases q with⟨q1,rfl,q3,q4⟩ |⟨q1,rfl⟩
    . exact kz _ (P:=k8 K P D l ah 2 (.ret<|.bytes<|aP K l)<|eU K' P D') (kt0 (by decide)<|.inl<|mT q1 rfl q3 q4)
    . exact kz _ (P:=k8 K P D l ah 2 (.exc 138)<|eU K' P D') (kt0 (by decide)<|.inr ⟨q1,rfl⟩)
   |false=>
    erw [uo.gen rfl<|k1 _ hz ?_,kb _ (P:=((2:Nat):Int)=0) (by decide) (kb _ (P:=((2:Nat):Int)=1) (by decide)<|ka _ (P:=((2:Nat):Int)=2) rfl ?_),k1 _ hz<|kg _ j6 (YW hr hm h) λr hh q=>?_,V];obtain⟨K',D',rfl,q⟩:=q;rcases q with⟨q1,rfl,q3,q4⟩ |⟨q1,rfl⟩
    . exact kz _ (P:=k8 K P D l ao 2 (.ret<|.bytes<|aP K l)<|eU K' P D') (kt0 (by decide)<|.inl<|mT q1 rfl q3 q4)
    . exact kz _ (P:=k8 K P D l ao 2 (.exc 138)<|eU K' P D') (kt0 (by decide)<|.inr ⟨q1,rfl⟩)
 . skip
   cases b with
   |true=>
    obtain⟨ex,hd⟩:=h.d;have hd:(K.dt P D l).Ok ((K.goes l).sE P .fin++ex):=Dc.Ok.step hd;erw [uo.gen rfl,kb _ (P:=((3:Nat):Int)=0) (by decide) (kb _ (P:=((3:Nat):Int)=1) (by decide)<|kb _ (P:=((3:Nat):Int)=2) (by decide) ?_),k1 _ hz<|kg _ j6 (Ky hr hm h.f) λr hh q=>?_,V];obtain⟨K',D',rfl,q⟩:=q;rcases q with⟨q1,rfl,rfl,rfl⟩ |⟨q1,rfl⟩
    . refine eX ?_;intro V;refine kc _ j6 (qeu (K:=K.goes l) (D:=K.dt P D l) (vq.trans hr) (sv.trans hm) h.p h.t.end hd) ?_
      exact kz _ (P:=k8 K P D l ah 3 (.ret<|.bytes<|aP K l)<|eU (K.fi l ah) P<|K.dE P D l ah) (kt0 (by decide)<|.inl<|mT q1 rfl rfl rfl)
    . exact kz _ (P:=k8 K P D l ah 3 (.exc 138)<|eU K' P D') (kt0 (by decide)<|.inr ⟨q1,rfl⟩)
   |false=>
    erw [uo.gen rfl<|k1 _ hz ?_,kb _ (P:=((3:Nat):Int)=0) (by decide) (kb _ (P:=((3:Nat):Int)=1) (by decide)<|kb _ (P:=((3:Nat):Int)=2) (by decide) ?_),k1 _ hz<|kg _ j6 (Ky hr hm h) λr hh q=>?_,V];obtain⟨K',D',rfl,q⟩:=q;rcases q with⟨q1,rfl,q3,q4⟩ |⟨q1,rfl⟩
    . exact kz _ (P:=k8 K P D l ao 3 (.ret<|.bytes<|aP K l)<|eU K' P D') (kt0 (by decide)<|.inl<|mT q1 rfl q3 q4)
    . exact kz _ (P:=k8 K P D l ao 3 (.exc 138)<|eU K' P D') (kt0 (by decide)<|.inr ⟨q1,rfl⟩)
end
section
variable{a:Nat}
theorem uq{m:qD α}{Q}(h:a6 M A m (λa=>Q<|.ok a) (λe=>Q<|.error e) s):a6 M A m.attempt Q E s:=λΓ p hΓ hc=>by rwa[af (Sem.wp_attempt _ _ _ _ _ _ _),h Γ p hΓ hc]
theorem Y8{M:HO}{A:c5}{s:aE}{E:aG->aE->Prop}{env:DO}{body}{orelse}{h0}{hs}{pos}{Q}(h:a6 M A (oB body env) (λf s1=>match f with |.next=>a6 M A (oB orelse env) Q E s1 |f=>Q f s1) (λe s1=>aC M A (leaving env e) (λz s3=>aC M A (handleBy e env<|h0::hs) Q E s3) E s1) s):
 a6 M A (exec (.Try body (h0::hs) orelse [] pos) env) Q E s:=by
 refine af (arm_exec_Try _ _ _ _ _ _)<|ou ?_;unfold tryStmt;simp only[List.isEmpty_nil,if_true,Li,Ql,bE,if_false];refine aR<|uq<|b8 h (λf s₁ h₁=>?_) λe s₁ h₁=>?_
 . cases f<;>first |exact h₁ |exact aY h₁
 . refine a6.of ?_
   show aC M A (qu e env>>=λz=>mR e aq>>=λz=>handleBy e env<|h0::hs) Q E s₁;exact dq (bind_assoc _ _ _)<|ak h₁
theorem G8(H:Sat C (yk a c::l) s)(q:∀s',Sat C (yk a c::l) s'->Q () s'):aC M A (mR (.ref a) aq) Q E s:=by
 refine dF (Dh H) λo vs hc hd h=>?_;have mO:o.cls≠ .type "frame":=by erw [af hc];simp
 unfold mR;rcases h with⟨h1,H1⟩ |⟨tb,ot,tvs,h1,⟨So,Ia⟩,h3,H1⟩
 . refine Mr (H1.get mO) hd h1 ?_
   exact af (if_neg<|by decide)<|au<|q _ H
 . refine Mr (H1.get mO) hd h1 ?_
   erw [af (if_pos<|show(cF tb !=eZ)=ah from by simp)];have eT:=(iC H1).get (by erw [af So];simp);have LK:=i7 Ia (·.setIfInBounds 3 eZ);have heT:=bj (eW (·.setIfInBounds 3 eZ)) eT<|gL LK;have H4:=(iC H1).set (t:=s.toks) (bu _ _ _) heT<|.inr<|qI _ Ia;rw[bU<|by refine af (eB _ _)<|af So ?_;simp] at H4;rwa[j7 eT Ia h3<|q _ ?_,Sat.imp ((Sat.unpack (l:=[_,_])).mpr<|iC H4) λg hg=>?_,dF hg λg1 g2 aH cX gW=>?_,-hg,!aH,!cX,dF gW λg3 g4 jl oN Sh=>?_,-gW,!jl,!oN,!Sh,⟨_,_,hc,hd,.inr<|QB _ _ _ h1 ⟨by exact af (eB _ _)<|af So rfl,LK⟩ (by simpa using h3) rfl⟩]
theorem wU{K:qo}(G:Gl C K)(e:sY K c f)(e':sY K c' f')(hb:(cF c::jb).contains (.ref c')=b)(H:Sat C (yk a c::l) s)(q:Q b s):aC (bc C) A (excMatches (.ref a)<|.ref c') Q E s:=by
 have X:=G.X H;have ob:=e.ob;have ob':=e'.ob;refine dF (Dh H) λo vs hc hd h=>?_;have mO:o.cls≠ .type "frame":=by erw [af hc];simp
 have he:s.heap.get? a=ae o:=by rcases h with⟨_,H1⟩ |⟨_,_,_,_,_,_,H1⟩<;>exact H1.get mO
 have hC:=X _ _ ob;have hC':=X _ _ ob';have t1:dA (bc C) s.heap (nD<|.ref a) (.ref c):=by rwa[dq hc,(fV he).andThen .now]
 have t2:dA (bc C) s.heap (nD<|.ref c') (.type "type"):=(fV hC').andThen .now;have mm:dA (bc C) s.heap (xR<|.ref c) (.ref c::jb):=((fV (part:=aq) hC).andThen .now).andThen .now;have mm':dA (bc C) s.heap (xR<|.ref c') (.ref c'::jb):=((fV (part:=aq) hC').andThen .now).andThen .now
 have sB:dA (bc C) s.heap (gB (.ref c')<|.type "BaseException") ah:=by
  unfold gB;exact mm'.andThen (by show dA _ _ (cg<|(cF c'::jb).contains<|.type "BaseException") _;rwa[af fe (af (show jb.contains (.type "BaseException")=ah from by decide+kernel)<|af (oI _) ?_),.now])
 have sC:dA (bc C) s.heap (gB (.ref c)<|.ref c') b:=by
  unfold gB;exact mm.andThen (by show dA _ _ (cg<|(cF c::jb).contains<|.ref c') _;rwa[af hb,.now])
 have iT:dA (bc C) s.heap (iH (.ref c')<|.type "tuple") ao:=t2.andThen<|mN tc_notTuple;have it:dA (bc C) s.heap (isType<|.ref c') ah:=(fV hC').andThen .now;unfold excMatches;erw [ak<|iT.here ?_,af (if_neg<|by decide)<|pB ?_];simp only[xl,List.forIn_nil];unfold isExcClass;erw [aB<|aB<|it.here ?_,af (if_pos rfl) (sB.here<|af (if_neg<|by decide) ?_),au<|au<|ak<|t1.here<|aB<|ak<|sC.here ?_]
 cases b with
 |true=>exact au<|au<|au q
 |false=>exact au<|au<|au q
noncomputable def nT:DE:=⟨1234,"_law_word",aq,82,.none,["work"],["TooLarge","BadArgument"]⟩
theorem BH:qP 1234=ae nT:=by kernel_rfl
noncomputable def Y9:List gK:=[.Try [.Return (ae<|.Call (.Name "work" ⟨907,15,907,19⟩) [] [] ⟨907,15,907,21⟩) ⟨907,8,907,21⟩] [.ExceptHandler (ae<|.Name "TooLarge" ⟨908,11,908,19⟩) aq [.Return (ae<|.Constant (.str "large") 0 ⟨909,15,909,22⟩) ⟨909,8,909,22⟩] ⟨908,4,909,22⟩,
 .ExceptHandler (ae<|.Name "BadArgument" ⟨910,11,910,22⟩) aq [.Return (ae<|.Constant (.str "argument") 0 ⟨911,15,911,25⟩) ⟨911,8,911,25⟩] ⟨910,4,911,25⟩] [] [] ⟨906,4,911,25⟩]
theorem KD:nT.body=Y9:=by kernel_rfl
end
structure LF(n k m:Nat)(hp:List AO)(post:AR->List AO->Prop):Prop where
 run:∀{C:Cx} {A:Around} {K:Frag} (G:Gl C K) (F:KF K) (rm:Rm C A n) {ω:Om} {a:Addr} {R:List bp} {s:Shared} {Rr:Result->Shared->Prop},
  ω.ρ[k]? =some a->m<=hp.length->ω.ρ.length=hp.length->Sat C (dR ω ω.ρ hp++(tups ω.τ++R)) s->
  (∀v hp' bb w s',post (.ret v) hp'->Agree m ω bb->bb.ρ.length=hp'.length->v.Is bb w->Sat C (dR bb bb.ρ hp'++(tups bb.τ++R)) s'->Rr (.ok<|.ret w) s')->
  (∀c hp' bb a s',post (.exc c) hp'->Agree m ω bb->bb.ρ.length=hp'.length->Sat C (yk a c::(dR bb bb.ρ hp'++(tups bb.τ++R))) s'->Rr (.error<|.ref a) s')->
  cQ (bc C) A (.call (.ref a) ⟨[],[]⟩) Rr s
 keep:∀{C:Cx} {ω:Om} {a:Addr} {R:List bp} {s:Shared},ω.ρ[k]? =some a->ω.ρ.length=hp.length->Sat C (dR ω ω.ρ hp++(tups ω.τ++R)) s->Looks (bc C) s.heap (keeperOf<|.ref a) .frame
noncomputable def PY(post:AR->List AO->Prop)(r:AR)(h:List AO):Prop:=(∃v,r= .ret v/\post (.ret v) h)\/(r= .ret (.str "large")/\post (.exc 138) h)\/(r= .ret (.str "argument")/\post (.exc 100) h)
theorem PZ(hF:LF n k m hp post)(hx:∀c h,post (.exc c) h->c=138\/c=100):LV (n+1) 1234 m [.ref k] hp (PY post):=by
 constructor;intro C A K G F rm ω vs R s Rr hv hm fX H q1 q2
 obtain⟨a,rfl,ea⟩:∃a,vs=[.ref a]/\ω.ρ[k]? =ae a:=by
  cases hv with
  |cons p r=>
   cases r
   rwa[aK (gY.mp p) λa ea aH=>?_,!aH,(bV a rfl ea)]
 refine aT (kF BH) λAe he=>?_;have sc:=AB _ Ae;refine aK rm.frames λl0 Cq sM=>(jy (ns:=nT.ns) (gs:=nT.gs) (rest:=[]) (binds:=[("work",.ref a)]) G (vP F BH) rm sc (λname kV doc pm an ct=>xV<|by kernel_rfl) rfl rfl H λL s1 H1 EH G1=>?_);have H1:Sat (C.push L) (ml L nT.ns [ae<|.ref a]::(dR ω ω.ρ hp++(tups ω.τ++R))) s1:=H1;erw [af KD,m5<|Y8<|m5<|O7 ?_,af (i6 _ _ _ _ _ _),bh<|vl 0 sc H1 rfl rfl λs2 H2=>qU (iK rfl)<|kA (jm rfl)<|rJ ?_,⟨(bV .frame (.inl rfl)<|hF.keep ea fX<|H2.perm pf),eK<|hF.run G1 F EH ea hm fX (H2.perm pf) (λv hp' bb w s' hp h1 h2 h3 H3=>?_) λc hp' bb x s' hp h1 h2 H3=>?_⟩]
 . exact q1 v hp' bb w s' (.inl<|bV v rfl hp) h1 h2 h3<|(H3.perm pf.symm).leave
 . refine ph (L:=L) (fz Cq) (λenv he=>by
    rcases aV.mp he with rfl |q
    . exact⟨by rwa[af (show(eo nT.qual nT.scope L 1234 (.ref 1233) []).scope.kind=nT.scope.kind from rfl)<|af sc.kind ?_,nofun],L,.head _,rfl⟩
    . refine aT (sM env q) λx aH=>?_;refine aK aH λL' y z=>?_;clear aH
      exact⟨x,L',.tail _ y,z⟩) rfl H3 λs3 H3=>?_
   have H3:Sat (C.push L) (ml L nT.ns [ae<|.ref a]::yk x c::(dR bb bb.ρ hp'++(tups bb.τ++R))) s3:=((H3.perm<|(pf.symm).cons _).perm<|.swap ..)
   have fin:∀{A':c5} {u:bI} {pp:PySem.Pos} {kk:Nat} {pr:PySem.Pos} {Q':La->aE->Prop} {E':aG->aE->Prop} {s4},Sat (C.push L) (yk x c::ml L nT.ns [ae<|.ref a]::(dR bb bb.ρ hp'++(tups bb.τ++R))) s4->PY post (.ret<|.str u) hp'->(∀t s',Rr (.ok<|.ret<|.str u t) s'->Q' (.ret<|.str u t) s')->
    aC (bc<|C.push L) A' (mR (.ref x) aq) (λj s1=>aC (bc<|C.push L) A' (oB [.Return (ae<|.Constant (.str u) kk pp) pr]<|eo nT.qual nT.scope L 1234 (.ref 1233) []) Q' E' s1) E' s4:=λH4 hw hQ=>by
    rwa[G8 H4 λs5 H5=>wpAny_execs_cons<|wpAny_Return_some<|Lj ?_,hQ _ _<|q1 _ hp' bb _ _ hw h1 h2 (tC.mpr<|qI _ rfl) (H5.toks.drop).leave]
   erw [Qp (L6<|mX (K:=K) G1 sc (.head _) (F.vO (ab "TooLarge",138)<|nG rfl) _ _ _ H3 λv s4 hv H4=>?_) (by intro q;contradiction),!hv];rcases hx _ _ hp with rfl |rfl
   . refine wU G1 F.yY.2 F.yY.2 (b:=ah) (by rfl) (iC H4) ?_
     exact Lp<|fin (iC H4) (.inr<|.inl ⟨rfl,hp⟩) λj j h=>h
   . refine wU G1 F.yY.1 F.yY.2 (b:=ao) (by rfl) (iC H4) ?_
     rwa[Qp (L6<|mX (K:=K) G1 sc (.tail _<|.head _) (F.vO (ab "BadArgument",100)<|nG rfl) _ _ _ H4 λv s5 hv H5=>?_) (by intro q;contradiction),!hv,wU G1 F.yY.1 F.yY.1 (b:=ah) (by rfl) (iC H5)<|Lp<|fin (iC H5) (.inr<|.inr ⟨rfl,hp⟩) λj j h=>h]
theorem DA{A:c5}{s:aE}{prog:oE}{w:iU}{R:zU->aE->Prop}{body:Expr}{env:DO}(h:a6 (bx prog w) (A.deeper env) (eval body env) (λv s'=>R (.ok<|.ret v) s')
 (λe s'=>aC (bx prog w) (A.deeper env) (leaving env e) (λz lP=>R (.error e) lP) (λe' lP=>R (.error e') lP) s') s):cQ (bx prog w) A (.expr body env) R s:=by
 erw [cT];show a6 _ (A.deeper env) (do point;ret (<-(eval body env).onRaise (leaving env))) _ _ s;exact aR<|my<|aR<|gH<|b8 h (λv s' h'=>aY h') λz z h'=>a6.of h'
theorem BI(qF:A.depth<qeV)(ho:s.heap.get? a=ae o)(D2:o.data= .func fd)(hco:fd.scope.isCoroutine=ao)(Us:fd.scope.isGenerator=ao)(LB:fd.body= .expr body)(LC:s.heap.CodeRec fd.code fd.qualname)(h:aC (bx prog w) A.in1 (qv fd args) (λbinds s₁=>
 aC (bx prog w) A.in1 (eE fd.scope fd.globals fd.closure binds (fd.qualname++".<locals>.") (ae a) fd.code aq fd.builtins)
  (λenv s₂=>s₂.heap.NoLimit/\cQ (bx prog w) A (.expr body env) R s₂) (λe s'=>R (.error e) s') s₁) (λe s'=>R (.error e) s') s):
 cQ (bx prog w) A (.call (.ref a) args) R s:=by
 refine cT<|a6.of ?_;show aC _ A.in1 (Ck (.ref a) args) _ _ s;simp only[Ck];erw [lB ho,Ih LC λc oc vs tq hc L7 U6 hq=>?_,-LC];simp only[D2,callFunction,hco,Us,LB,hc];rw[hc] at h;refine ak (m:=U0 (.ref c) 1)<|oF L7 U6 hq<|pB ?_
 exact ak<|cP h (λbinds s₁ h₁=>ak<|cP h₁ (λenv s₂ h₂=>ak (ZP h₂.1 qF
  (au ⟨⟨rfl,rfl⟩,h₂.2⟩))) λz z h'=>h') λz z h'=>h'
noncomputable def t9:zS:=⟨[],[],aq,[],[],aq,[]⟩
noncomputable def Za(m:Lm)(q:bI)(cs:List (bI×Nat))(gs:List bI)(n0:Nat):Bool:=
 Ed m.scope [] gs&&(m.scope.names.all (λx=> !(x.2== .cell))&&(!m.scope.isCoroutine&&(!m.scope.isGenerator&&cs.all λp=>m.scope.names.lookup p.1==ae .free&&(!(p.1==("__debug__":bI))&&(!(p.1==("__classdict__":bI))&&iu p.2 n0)))))
noncomputable def pmF(n:Nat)(cs:List (bI×Nat))(post:AR->List AO->Prop):Pm:=⟨n,λc hp'=>.nd (post (.exc c) hp') .tt,cs,ao,λz z z z=>.ff⟩
def Zb(n:Nat)(cs:List (bI×Nat))(e:IE)(hp:List AO)(post:AR->List AO->Prop):VC:=(iR (pmF n cs post) [] e).v hp λv hp'=>.nd (post (.ret v) hp') .tt
theorem wV{ω:Om}(h:F2 (λ(p:bI×Nat) (q:bI×br)=>q.1=p.1/\ω.ρ[p.2]? =ae q.2) cs cl):∀{x:bI} {r:Nat},cs.lookup x=ae r->∃a,cl.lookup x=ae a/\ω.ρ[r]? =ae a:=by
 induction h with
 |nil=>intro x r e;contradiction
 | @cons p q _ _ hpq _ ih=>
   intro x r e;obtain⟨p1,p2⟩:=p;obtain⟨q1,q2⟩:=q;erw [aT hpq λaH h2=>?_,-hpq,!aH];rw[dN] at e |-
   cases he:x==q1 with
   |true=>rw[he] at e;(injection e with e;subst e);exact(bV q2 rfl h2)
   |false=>rw[he] at e;exact ih e
theorem LF.enter(gs:List bI)(hk:hp[k]? =ae (.fn lm q cs))(LM:Za lm q cs gs m=ah)(Uz:lm.params=t9)(he:tr [] gs lm.body=e)(hw:(Zb n cs e hp post).H):LF (n+1) k m hp post:=by
 have obj:∀{C:Cx} {ω:Om} {a:br} {R:List bp} {s:aE},ω.ρ[k]? =ae a->ω.ρ.length=hp.length->Sat C (dR ω ω.ρ hp++(tups ω.τ++R)) s->∃c' cl nm pm ct,F2 (λ(p:bI×Nat) (q:bI×br)=>q.1=p.1/\ω.ρ[p.2]? =ae q.2) cs cl/\(c',Fz.code q)∈ω.τ/\s.heap.get? a=ae (uB nm q lm.params lm.body lm.scope cl pm c' ct):=λ{C ω a R s} ea hl H=>by
  obtain⟨a',dU,l,p,-⟩:=ni (ω:=ω) hl hk;rw[ea] at dU;injection dU with dU;subst dU
  have H1:Sat C (AO.P (.fn lm q cs) ω a::(l++(tups ω.τ++R))) s:=H.perm<|p.append_right _;erw [nn λzn=>?_,aT H1 λf aH=>?_,-H1,aK aH λg cX t=>?_,-aH,dF cX λg1 g2 gW h1 h2=>?_,-cX,!gW,Ii h1 λc' cl nm pm ct yT Vb hg=>?_,zn,-zn,-h1];have H2:Sat C (pt a (uB nm q lm.params lm.body lm.scope cl pm c' ct)::(l++(tups ω.τ++R))) s:=⟨f,_,⟨_,_,rfl,hg,h2⟩,t⟩;exact(qa6 c' cl nm pm ct yT Vb<|H2.get<|not_eq_of_beq_eq_false rfl)
 simp only[Za,bG,a4,dC,beq_iff_eq] at LM;erw [Mf LM λh1 h2 h3 h4 h5=>?_,-LM];have sc:=uY h1;refine⟨λ{C A K} G F rm {ω a R s Rr} ea hm fX H q1 q2=>?_,λ{C ω a R s} ea hl H=>?_⟩
 . refine nn λzn=>?_;refine Ii (obj ea fX H) λc' cl nm pm ct yT Vb ho=>?_
   obtain⟨Rc,Hc⟩:∃l,Sat C (Cod c' q::l) s:=H.mem<|a5 _<|bB _<|dW.mpr<|bV ((c',Fz.code q)) Vb rfl
   refine zn ?_;clear zn;have Lv:s.heap.CodeRec (.ref c') q:=by
    erw [aT Hc λf aH=>?_,-Hc,aK aH λg cX th=>?_,-aH,dF cX λg1 g2 gW jl hg=>?_,-cX,!gW,xn jl λo vs t hd hv oN=>?_,-jl,!oN];have H2:Sat C (pt c' o::Rc) s:=⟨f,_,⟨_,_,rfl,rfl,hg⟩,th⟩;refine aK H2.at λo' e' n'=>?_;exact⟨c',o',vs,t,rfl,e',by rwa[dq (c8 _)<|af n' ?_,hd],hv⟩
   erw [nn λzn=>?_,yX G.top λp loose mg mb T=>?_,aK rm.frames λl0 Cq sM=>?_,zn,-zn,BI (body:=lm.body) (by have:=rm.depth;exact‹a+2*(b+1)<c->a<c› this) ho rfl h3 h4 rfl Lv];have pM:qv (kla_fn nm q lm.params lm.body lm.scope cl pm (.ref c') ct) ⟨[],[]⟩=cg []:=by rwa[af Uz,_]
   erw [af pM,au<|vJ (rest:=[]) H sc.kind (λx hx=>by have:=h2 x hx;simpa using this) (λx hx=>by contradiction) .nil λL s1 H1=>⟨T.nolimit.keeps H1.stays,DA ?_⟩];have H2:=H1.push H1.Il H1.QI;have EH:=rm.deeper (qual:=q) (scope:=lm.scope) (L:=L) (f:=a) (cdv:=.ref c') (cl:=cl) sc.kind;have G1:=G.push L
   let c:Fm:=⟨C.push L,A.deeper<|eo q lm.scope L a (.ref c') cl,K,pmF n cs post,lm.scope,[],gs,q,L,a,.ref c',cl,
    λe s'=>aC (bx (C.push L).prog (C.push L).w) (A.deeper<|eo q lm.scope L a (.ref c') cl) (leaving (eo q lm.scope L a (.ref c') cl) e) (λu lP=>Rr (.error e) lP) (λe' lP=>Rr (.error e') lP) s'⟩
   have r:Rn c R ⟨ω,m⟩:=⟨G1,F,EH,sc,(PassesOwn.leaving),λx i ei=>(by
    refine aK (wV yT (x:=x) (r:=i) ei) λa1 e1 e2=>?_;have:=h5 (x,i)<|gi ei
    exact⟨.inr ⟨rfl,this.1⟩,this.2.1,this.2.2.1,Nat.blt_eq.mp this.2.2.2,a1,e1,e2⟩),λu u u h=>h.elim,λx hp' bb a s' h1 ag h3 H'=>
    ph (L:=L) (fz Cq) (λenv he=>by
     rcases aV.mp he with rfl |q
     . exact⟨by rwa[af (show c.env.scope.kind=lm.scope.kind from rfl)<|af sc.kind ?_,nofun],L,.head _,rfl⟩
     . refine nn λzn=>?_;refine aT (sM env q) λx aH=>?_;refine aK aH λL' y z=>?_;refine zn ?_;clear zn;clear aH
       exact⟨x,L',.tail _ y,z⟩) rfl H' λlP Mu=>q2 x hp' bb a lP h1.1 ag h3 Mu.pop⟩
   subst he
   exact(yS (c:=c) lm.body).v (R:=R) (cC:=⟨ω,m⟩) ⟨r,.refl (by refine af fX ?_;exact hm),fX,[],.nil,H2⟩ hw λv hp' bb w s' HB ex hv HS=>by
    obtain⟨jk,vs',-,H'⟩:=HS;exact q1 v hp' bb w s' HB.1 (ex.le<|by rwa[af fX,hm]) jk hv H'.leave
 . refine Ii (obj ea hl H) λc' cl nm pm ct yT Vb ho=>?_
   exact(fV (part:=aq) ho).andThen .now
noncomputable def mK:List (bI×D1)->List bI->List bI
 |[],gC=>gC
 |(x,k)::r,gC=>match k== .cell with
  |true=>mK r<|x::gC
  |false=>mK r gC
noncomputable def G9:List (bI×br)->List (Option aG)->List bp
 |(_,a)::cl,w::ws=>Rl a w::G9 cl ws
 |_,_=>[]
theorem zM{code:aG}(H:Sat C l s)(hk:scope.kind= .function)(nd:ns.Nodup)(hb:∀L cl s1,cl.map (·.1)=mK scope.names []->Sat C (G9 cl (iz<|mK scope.names [])++(ml L ns (iz ns)::l)) s1->
 aC (bx C.prog C.w) A (forIn binds sI λx z=>do gy (T7 scope L globals cl qual func code aq builtins) x.1 x.2;cg (mS sI)) (λz s2=>Q (T7 scope L globals cl qual func code aq builtins) s2) E s1):
 aC (bx C.prog C.w) A (eE scope globals [] binds qual func code aq builtins) Q E s:=by
 simp only[eE,FK,bE,if_false];simp only[T7] at hb;refine ak<|tP ?_
 have H0:Sat C (ml s.heap.objs.size ns (iz ns)::l) {s with heap:=s.heap.push {cls:=.type "frame",data:=.dict #[]}}:=by
  rwa[(H.alloc (t:=s.toks) (o:={cls:=.type "frame",data:=.dict #[]}) rfl).imp λg hg=>?_,!hg,⟨_, #[],0,rfl,by(first |exact(ft _) |exact congrArg _ (ft _) |exact af (ft _) rfl),by(first |exact(c8 _) |exact congrArg _ (c8 _) |exact af (c8 _) rfl),λe he=>by simp at he,λx=>(mY _ x).symm⟩]
 have hb:=hb s.heap.objs.size;generalize s.heap.objs.size=L at H0 hb |-;refine ak (ZJ _ (λtodo cs s'=>mK todo (cs.map (·.1))=mK scope.names []/\Sat C (G9 cs (iz (cs.map (·.1)))++(ml L ns (iz ns)::l)) s') _ ?_ ?_ scope.names _ ⟨rfl,H0⟩)
 . rintro⟨x,k⟩ todo cs s' ⟨h1,h2⟩
   rw[show mK ((x,k)::todo) (cs.map (·.1))=(match k== .cell with |true=>mK todo (x::cs.map (·.1)) |false=>mK todo (cs.map (·.1))) from rfl] at h1
   cases hkc:k== .cell with
   |true=>
    rw[hkc] at h1;simp only[if_true];refine ak<|tP<|au ⟨h1,?_⟩;have:=h2.alloc (t:=s'.toks) (o:={cls:=.type "cell",data:=.cell aq}) rfl;rw[bU<|by exact nofun] at this;exact this.imp λg hg=>⟨_,rfl,rfl,hg⟩
   |false=>
    rw[hkc] at h1;simp only[bE,if_false];exact au ⟨h1,h2⟩
 . rintro cs s' ⟨h1,h2⟩
   have h1:cs.map (·.1)=mK scope.names []:=h1;refine mB (hb cs s' h1<|by rwa[dq h1,h2]) λz s2 h=>au h
theorem SA.Ha:∀{ω:Om} {hp:List AO},SA c (G9 cl (iz (cl.map (·.1)))++R) ω fr hp s->SA c R ⟨ω.ρ++cl.map (·.2),ω.τ⟩ fr (hp++cl.map λz=>.fb aq) s:=by
 induction cl with
 |nil=>
  intro ω hp h;have h:SA c R ω fr hp s:=h;simp only[ly,bD];exact h
 |cons zp cl ih=>
  obtain⟨x,a⟩:=zp;intro ω hp h;have h1:SA c (Rl a aq::(G9 cl (iz (cl.map (·.1)))++R)) ω fr hp s:=h;have h2:=h1.adopt (o:=.fb aq) λg hg=>⟨aq,trivial,hg⟩;have h3:=ih h2;simpa[Om.add,ax] using h3
noncomputable def pF:List bI->Nat->List (bI×Nat)
 |[],_=>[]
 |x::r,k=>(x,k)::pF r (k+1)
theorem Hb{cl:List (bI×br)}:∀{cn:List bI} {k:Nat} {x:bI} {r:Nat} {ρ:List br},cl.map (·.1)=cn->ρ.length=k->(pF cn k).lookup x=ae r->r<k+cn.length/\x∈cn/\∃a,cl.lookup x=ae a/\(ρ++cl.map (·.2))[r]? =ae a:=by
 induction cl with
 |nil=>
  intro cn k x r ρ e _ h;subst e;contradiction
 |cons zp cl ih=>
  obtain⟨y,a⟩:=zp;intro cn k x r ρ e hk h;subst e;unfold nY pF at h;rw[dN] at h |-
  cases hx:x==y with
  |true=>
   rw[hx] at h;injection h with h;subst h
   refine⟨by simp,by rw[beq_iff_eq.mp hx];exact .head _,a,rfl,?_⟩;rw[<-hk];simp
  |false=>
   rw[hx] at h;have h:(pF (cl.map (·.1))<|k+1).lookup x=ae r:=h;erw [lE (ih (ρ:=ρ++[a]) rfl (by simp[hk]) h) λh1 h2 aH=>?_,aK aH λb h3 h4=>?_,-aH,⟨by simp only[bW,bQ] at h1 |-;exact‹a<b+1+c->a<b+(c+1)› h1,.tail _ h2,b,h3,?_⟩];simpa[ax] using h4
noncomputable def KG(p:Pm)(ns:List bI):List (bI×AV)->Frs->List AO->(Frs->List AO->VC)->VC
 |[],fr,hp,k=>k fr hp
 |(x,v)::r,fr,hp,k=>JG p (tF ns x) v fr hp λfr hp=>KG p ns r fr hp k
theorem N4:∀{ws:List aG} {fr:Frs} {hp:List AO} {s:aE} {k:Frs->List AO->VC},Now c R cC ω fr hp s->F2 (λ(b:bI×AV) w=>b.2.Is ω w) bs ws->(KG c.p c.ns bs fr hp k).H->
 (∀fr hp s',(k fr hp).H->Now c R cC ω fr hp s'->Q sI s')->aC (bc c.C) c.A (forIn ((bs.map (·.1)).zip ws) sI λx z=>do gy c.env x.1 x.2;cg (mS sI)) Q c.E s:=by
 induction bs with
 |nil=>
  intro ws fr hp s k n hv h q;cases hv
  exact au<|q _ _ _ h n
 |cons zp bs ih=>
  obtain⟨x,v⟩:=zp;intro ws fr hp s k n hv h q
  cases hv with
  |cons p r=>
   simp only[bW,sU,xl];rwa[ak<|ak<|vk n h p λfr hp s' hk n'=>au ?_,ih n' r hk q]
structure DB(c:Fm)(cC:Bs):Prop where
 G:Gl c.C c.K
 F:KF c.K
 rm:Rm c.C c.A c.p.N
 sc:mr c.scope c.ns c.gs
 po:PassesOwn (bc c.C) c.A c.env c.E
 cs:∀x r,c.p.cm.lookup x=some r->(c.scope.names.lookup x=some .cell\/(c.p.cw=false/\c.scope.names.lookup x=some .free))/\(x==("__debug__":Str))=false/\(x==("__classdict__":Str))=false/\r<cC.m/\∃a,c.cl.lookup x=some a/\cC.o.ρ[r]? =some a
theorem Fq{α:Type}{l:List α}:∀{j:Nat} {x:α},l[j]? =ae x->l.set j x=l:=by
 induction l with
 |nil=>intro j x h;contradiction
 |cons a l ih=>intro j x h;cases j with
  |zero=>injection h with h;subst h;rfl
  |succ j=>exact congrArg _<|ih h
theorem Sat.lam(h:Sat C (pt P o::R) s)(k:FJ P s.heap h')(e:h'.get? P=ae o')(hk:∃vs,o.data= .fields vs)(hc:h'.get? c'=ae oc)(hn:s.heap.objs.size<=c'):Sat C (pt c' (norm oc)::pt P (norm o')::R) {s with heap:=h',toks:=t}:=by
 have H2:=h.lose (t:=t) hk k;erw [nn λzn=>?_,aK h.at λo₀ e₀ n₀=>?_];have hb:=h.rF;erw [aT h λf aH=>?_,-h,aK aH λg cX th=>?_,-aH,dF cX λg1 g2 gW h1 h2=>?_,-cX,!gW];cases h1
 have nd:=th.nodup;rw[cN,bW,ly,cj] at nd;obtain⟨f2,-⟩:=H2
 refine zn ?_;clear zn;have low:∀x∈[(P,o)]++g2,x.1<s.heap.objs.size:=λx hx=>by
  obtain⟨ox,ex,-⟩:=th.at_ x hx;exact lr ex
 have qeJ:∀y∈P::g2.map (·.1),y≠c':=λy hy q=>by
  rcases aV.mp hy with rfl |hy
  . have:=low (y,o) (bB _<|.head _)
    rw[q] at this;exact absurd (aJ this hn)<|nB _
  . refine aK (dW.mp hy) λx hx aH=>?_;subst aH
    have:=low x<|a5 _ hx;rw[q] at this;exact absurd (aJ this hn)<|nB _
 refine⟨f2,(c',norm oc)::(P,norm o')::g2,⟨[_],_,rfl,rfl,[_],g2,rfl,rfl,h2⟩,?_,λx hx=>?_,λx hx=>?_⟩
 . refine af bW (af bW<|af (propext cO) ?_)
   exact⟨λq=>qeJ _ q rfl,nd⟩
 . rcases aV.mp hx with rfl |hx
   . exact(bV oc hc rfl)
   . rcases aV.mp hx with rfl |hx
     . exact(bV o' e rfl)
     . refine aK (th.at_ x<|a5 _ hx) λox ex nx=>?_
       refine(bV ox (k _ _ (λq=>?_) ex) nx);rw[cO] at nd;exact nd.1<|dW.mpr<|bV x hx q
 . rcases aV.mp hx with rfl |hx
   . cases e:C.base.get? c' with
     |none=>rfl
     |some ob=>exact absurd (aJ (lr<|f.stays _ _ e) hn)<|nB _
   . rcases aV.mp hx with rfl |hx
     . exact hb
     . exact th.new x<|a5 _ hx
theorem SA.ur(h:SA c R ω fr hp s)(p:R.Perm R'):SA c R' ω fr hp s:=by
 rwa[aT h λhl aH=>?_,-h,aK aH λvs hv H=>?_,-aH,⟨hl,vs,hv,H.perm<|(((p.append_left _).append_left _)).cons _⟩]
theorem SA.un3(h:SA c (SL [A,B,D]::R) ω fr hp s):SA c (A::B::D::R) ω fr hp s:=by
 erw [aT h λhl aH=>?_,-h,aK aH λvs hv H=>?_,-aH,⟨hl,vs,hv,?_⟩];have H1:=Sat.unpack.mp<|H.perm kK;exact((Sat.perm ((kK.symm.cons B).cons A) H1).perm<|kK.symm.cons A).perm kK.symm
theorem xK{p:PySem.Pos}:∀(l:List aG),qx l->qy q (l++[fC p.line,fC p.col,c])=qy q l\/qy q (l++[fC p.line,fC p.col,c])=ae c:=by
 intro l h
 fun_induction qx l with
 |case1=>
  simp only[List.nil_append,qy,fC]
  split
  . exact .inr rfl
  . exact .inl rfl
 |case2 a t b u x rest ih=>
  simp only[f7,qy]
  split
  . exact .inl rfl
  . exact ih h
 |case3=>exact h.elim
theorem BJ{p:PySem.Pos}:∀(l:List aG),qx l->qx (l++[fC p.line,fC p.col,c]):=by
 intro l h
 fun_induction qx l with
 |case1=>assumption
 |case2 a t b u x rest ih=>simp only[f7,qx];exact ih h
 |case3=>exact h.elim
noncomputable def uM(cm:List (bI×Nat)):List (bI×D1)->List (bI×Nat)->Option (List<|bI×Nat)
 |[],gC=>ae gC
 |(x,k)::r,gC=>match k== .free with
  |true=>match cm.lookup x with
   |some p=>uM cm r<|(x,p)::gC
   |none=>aq
  |false=>uM cm r gC
theorem DC{ω:Om}(hc:∀x r,cm.lookup x=ae r->∃a,env.cells.lookup x=ae a/\ω.ρ[r]? =ae a)(names:List (bI×D1)):∀(gC:List (bI×Nat)) (cl:List (bI×br)) {cs:List (bI×Nat)},F2 (λ(p:bI×Nat) (q:bI×br)=>q.1=p.1/\ω.ρ[p.2]? =ae q.2) gC cl->uM cm names gC=ae cs->
 ∃UR,F2 (λ(p:bI×Nat) (q:bI×br)=>q.1=p.1/\ω.ρ[p.2]? =ae q.2) cs UR/\(forIn (m:=qD) names cl λ(x:bI×D1) (cs:List (bI×br))=>(if x.2== .free then do let a<-cellOf env x.1;cg (mS<|(x.1,a)::cs) else cg (mS cs)))=cg UR:=by
 induction names with
 |nil=>
  intro gC cl cs h e;cases e;exact(bV cl h rfl)
 |cons zp r ih=>
  obtain⟨x,k⟩:=zp;intro gC cl cs h e;have e:(match k== .free with |true=>(match cm.lookup x with |some p=>uM cm r ((x,p)::gC) |none=>aq) |false=>uM cm r gC)=ae cs:=e;erw [af (xl _ _ _ _)]
  cases hk:k== .free with
  |false=>
   rw[hk] at e;exact aK (ih gC cl h e) λUR h1 h2=>((bV UR h1<|by trivial))
  |true=>
   rw[hk] at e;dsimp only at e
   cases hx:cm.lookup x with
   |none=>rw[hx] at e;contradiction
   |some p=>
    rw[hx] at e;erw [nn λzn=>?_,aK (hc x p hx) λa ha hp=>?_,aK (ih ((x,p)::gC) ((x,a)::cl) (.cons ⟨rfl,hp⟩ h) e) λUR h1 h2=>?_,zn,-zn,(bV UR h1 ?_)];simp only[hk,if_true];have:cellOf env x=cg a:=by unfold cellOf;(first |exact ha |exact congrArg _ ha |exact af ha rfl)
    erw [af this];trivial
theorem qA{ω:Om}(hc:∀x r,cm.lookup x=ae r->∃a,env.cells.lookup x=ae a/\ω.ρ[r]? =ae a)(e:uM cm scope.names []=ae cs):
 ∃cl,F2 (λ(p:bI×Nat) (q:bI×br)=>q.1=p.1/\ω.ρ[p.2]? =ae q.2) cs cl/\Um scope env=cg cl:=by
 erw [aK (DC (env:=env) hc scope.names [] [] .nil e) λcl h1 h2=>?_,(bV cl h1 ?_)];unfold Um;erw [dq h2];show(forIn scope.names [] _>>=λcs=>cg cs)=_
 (first |exact(bind_pure _) |exact congrArg _ (bind_pure _) |exact af (bind_pure _) rfl)
theorem Tr{j:Nat}(r:DB c cC)(g:Agree cC.m cC.o ω)(S:SA c R ω fr hp s)(hj:hp[j]? =ae (.tA ms q P))(hm:lm∈ms)(hq:c.env.qual++"<lambda>"=q)(HY:uM c.p.cm lm.scope.names []=ae cs)(hd:∃cc,c.cdv= .ref cc/\(cc,P)∈[(1245,1243),(1264,1262)])(Uz:lm.params=t9)(hk:(k (.ref hp.length)<|hp++[.fn lm q cs]).H)(hQ:Done c R ω fr k Q):aC (bc c.C) c.A (eval (.Lambda lm.params lm.body lm.scope lm.pos) c.env) Q c.E s:=by
 erw [nn λzn=>?_,aK hd λcc Mb Qz=>?_,-hd,yX r.G.top λp loose mg mb T=>?_];obtain⟨l0,H0,-⟩:=S.sat;erw [zn,-zn];have X:=r.G.X H0;have stays:=H0.stays;have CH:CodeHd s.heap cc P:=r.F.QP _ Qz _ X;erw [nn λzn=>?_,Ct r.F.kBm λbm ob b1 b2 b3 b4 b5 b6 b7=>?_];have hg:=T.g.keeps stays;have hmg:=mg_of r.G.inn T.g b1
 obtain⟨cl,yT,N5⟩:=qA (env:=c.env) (ω:=ω) (scope:=lm.scope) (λx r1 e=>by
  obtain⟨-,-,-,h4,a,h5,h6⟩:=r.cs x r1 e
  exact(bV a h5<|(g.same r1 h4).trans h6)) HY
 erw [aK (S.take hj) λa ea aH=>?_,aK aH λl H1 back=>?_,-aH,aT (Sat.pure.mp H1) λaH H2=>?_,!aH,c4 (Sat.ex.mp H2) λps H3=>(aT (Sat.pure.mp H3) λht H4=>(aT (Sat.pure.mp H4) λhms H5=>?_)),zn,-zn];have eP:=H5.get (by simp)
 have hgP:eD≠a:=λe=>by
  obtain⟨o,es,ep,e1,hd,_⟩:=hg;rw[e,eP] at e1;cases e1;contradiction
 have hbP:bm≠a:=λe=>by
  have e1:=X _ _ b4;rw[e,eP] at e1;cases e1;contradiction
 have hB:s.heap.BuiltinsAt mg a:=⟨bm,ob,hmg,b2,b3,hbP,X _ _ b4,b5,b6,b7⟩;erw [kla_eval (by erw [af Uz];rfl)];rcases hms lm hm with hnf |⟨c',hf,Vb⟩
 . refine kla_makeFunction (ps:=ps) N5 rfl hg Mb CH eP ht hnf hgP hB λc' UA h' tk hx hge ju qaJ htb=>?_
   rw[hq] at qaJ |-;refine nn λzn=>?_;obtain⟨c2,oc2,yR,t2,e2,L7,hd2,t8⟩:=qaJ;cases e2
   erw [zn,-zn];have S1:=H5.lam (t:=tk) hx htb (qI _ rfl) L7 hge;rw[bU (o:=tV _)<|by simp] at S1;have S2:=S1.alloc (o:=uB "<lambda>" q lm.params lm.body lm.scope cl ((mg "__name__").getD .none) c' UA) (t:=tk) rfl;rw[bU<|by simp] at S2;have hl:=S.1
   let F:bp:=pt h'.objs.size<|uB "<lambda>" q lm.params lm.body lm.scope cl ((mg "__name__").getD .none) c' UA;let T':bp:=pt a<|tV<|ps++ #[fC lm.pos.line,fC lm.pos.col,.ref c']
   have S3:Sat c.C (SL [Cod c' q,F,T']::l) {s with heap:=h'.push<|uB "<lambda>" q lm.params lm.body lm.scope cl ((mg "__name__").getD .none) c' UA,toks:=tk}:=
    Sat.unpack.mpr ((iC S2).imp λg hg=>⟨norm oc2,yR,t2,(c8 _).trans hd2,t8,hg⟩)
   have S4:=(back _ _ S3).un3;have S5:SA c (F::T'::R) (ω.xF c'<|.code q) fr (hp.set j .gone) _:=S4.IP (z:=.code q);have ju:j<hp.length:=(bg.mp hj).1;have S6:=(S5.ur<|.swap ..).give (i:=j) (o:=.tA ms q a) (by simp[ju]) ea λg hg=>⟨rfl,_,by rwa[af FQ,BJ _ ht],λm hm2=>?_,hg⟩
   . rw[uE,Fq hj] at S6
     rwa[hQ _ _ ((ω.xF c'<|.code q).add h'.objs.size) _ _ hk (Om.oX.ext Om.gd) (gY.mpr<|bV _ (by rwa[dq hl,Om.zc]) rfl)<|S6.adopt λg hg=>?_,⟨c',cl,_,_,_,yT.imp λp q2 h=>⟨h.1,Om.gd.at h.2⟩,.head _,hg⟩]
   . refine af FQ ?_
     rcases xK (p:=lm.pos) (q:=m.pos) (c:=.ref c') ps.toList ht with h0 |h0
     . rwa[af h0,(hms m hm2).imp_right<|cR λc2=>B5<|.tail _]
     . exact .inr<|bV c' h0<|.head _
 . refine kla_makeFunctionHit (ps:=ps) N5 rfl hg Mb CH eP ht hf hB λUA h' tk OI HX=>?_
   erw [af hq]
   have key:SA c (pt h'.objs.size (uB "<lambda>" q lm.params lm.body lm.scope cl ((mg "__name__").getD .none) c' UA)::R) ω fr hp {s with heap:=h'.push {cls:=.type "function",data:=.func<|kla_fn "<lambda>" q lm.params lm.body lm.scope cl ((mg "__name__").getD .none) (.ref c') UA},toks:=tk}:=S.into λl2 Hl=>by
    have h1:=(Hl.ext (t:=tk) OI).alloc (o:=uB "<lambda>" q lm.params lm.body lm.scope cl ((mg "__name__").getD .none) c' UA) (t:=tk) rfl;rw[bU<|by simp] at h1;exact h1
   have hl:=S.1;rwa[hQ _ _ (ω.add h'.objs.size) _ _ hk Om.gd (gY.mpr<|bV _ (by rwa[dq hl,Om.zc]) rfl)<|key.adopt λg hg=>?_,⟨c',cl,_,_,_,yT.imp λp q2 h=>⟨h.1,Om.gd.at h.2⟩,Vb,hg⟩]
noncomputable def pmC(n:Nat)(cn:List bI)(k:Nat)(O:Expr->Frs->List AO->(AV->List AO->VC)->VC)(post:AR->List AO->Prop):Pm:=⟨n,λc hp'=>.nd (post (.exc c) hp') .tt,pF cn k,ah,O⟩
noncomputable def Zc(cn:List bI)(k:Nat):Pm:=⟨0,λz z=>.ff,pF cn k,ah,λz z z z=>.ff⟩
noncomputable def N6(d:DE)(cn:List bI):Bool:=decide cn.Nodup&&cn.all λx=>d.scope.names.lookup x==ae .cell&&(!(x==("__debug__":bI))&& !(x==("__classdict__":bI)))
def Fs(n:Nat)(d:DE)(is:IS)(cn xs:List bI)(args:List AV)(O:Expr->Frs->List AO->(AV->List AO->VC)->VC)(hp:List AO)(post:AR->List AO->Prop):VC:=
 KG (Zc cn hp.length) d.ns (xs.zip args) (d.ns.map λz=>aq) (hp++cn.map λz=>.fb aq) λfr hp'=>WS (pmC n cn hp.length O post) is fr hp' λfl z hp'=>.nd (post (.ret<|Nx fl) hp') .tt
theorem Ts(h:Vs ω as vs):∀{xs:List bI},xs.length=as.length->F2 (λ(b:bI×AV) w=>b.2.Is ω w) (xs.zip as) vs:=by
 induction h with
 |nil=>
  intro xs e
  cases xs with
  |nil=>exact .nil
  |cons _ _=>contradiction
 |cons p _ ih=>
  intro xs e
  cases xs with
  |nil=>contradiction
  |cons x xs=>exact .cons p (ih<|by simpa using e)
theorem LV.Tt{hp}(cn xs:List bI)(hd:d∈[uH,sO])(hf:d.f=f)(sc:mr d.scope d.ns d.gs)(OO:mK d.scope.names []=cn)(LM:N6 d cn=ah)(UB:xs.length=args.length)(pM:∀vs:List aG,vs.length=xs.length->∀name kV doc pm an ct,qv (z3 name d.qual d.params d.body d.scope d.dV kV doc pm an (.ref<|f-1) ct) ⟨vs,[]⟩=cg (xs.zip vs))(hS:uh d.ns d.gs d.body=is)(hO:∀{c:Fm} {cC:Bs} {e:Expr} {R':List bp} {ω:Om} {fr:Frs} {hp':List AO} {s:aE} {k:AV->List AO->VC} {Q:aG->aE->Prop},c.p=pmC n cn hp.length O post->c.qual=d.qual->c.cdv= .ref (f-1)->c.scope=d.scope->c.ns=d.ns->DB c cC->Mh e=ah->Agree cC.m cC.o ω->SA c R' ω fr hp' s->(O e fr hp' k).H->Done c R' ω fr k Q->a6 (bc c.C) c.A (eval e c.env) Q c.E s)(hw:(Fs n d is cn xs args O hp post).H):LV (n+1) f m args hp post:=by
 constructor;intro C A K G F rm ω vs R s Rr hv hm fX H q1 q2;simp only[N6,bG,a4,dC,beq_iff_eq,decide_eq_true_eq] at LM;erw [aT LM λnd Mb=>?_,-LM];have D:=F.Iw d hd;rw[hf] at D;erw [nn λzn=>?_,Ij D.there λoc od name kV doc pm an ct osl ho=>?_,yX G.top λp loose mg mb T=>?_,aK rm.frames λl0 Cq sM=>?_,zn,-zn,j9 (fd:=z3 name d.qual d.params d.body d.scope d.dV kV doc pm an (.ref<|f-1) ct) (by have:=rm.depth;exact‹a+2*(b+1)<c->a<c› this) (G.X H _ _ ho) rfl D.co D.gen rfl (codeRec_of (G.X H) D.code),af (pM vs (by exact dq hv.length<|af UB rfl) _ _ _ _ _ _),au<|zM (ns:=d.ns) H sc.kind sc.nodup λL cl s1 yT H1=>?_];rw[OO] at yT H1;subst hS;have e0:(mK d.scope.names []:List bI)=cn:=OO
 let c:Fm:=⟨C.push L,A.deeper<|eo d.qual d.scope L f (.ref<|f-1) cl,K,pmC n cn hp.length O post,d.scope,d.ns,d.gs,d.qual,L,f,.ref<|f-1,cl,
  λe s'=>aC (bx (C.push L).prog (C.push L).w) (A.deeper<|eo d.qual d.scope L f (.ref<|f-1) cl) (leaving (eo d.qual d.scope L f (.ref<|f-1) cl) e) (λu lP=>Rr (.error e) lP) (λe' lP=>Rr (.error e') lP) s'⟩
 have EH:=rm.deeper (qual:=d.qual) (scope:=d.scope) (L:=L) (f:=f) (cdv:=.ref<|f-1) (cl:=cl) sc.kind;have G1:=G.push L;have qeK:cl.length=cn.length:=by exact dq yT<|af (a3 _) rfl
 let da:Om:=⟨ω.ρ++cl.map (·.2),ω.τ⟩;have ex1:mh ω da:=⟨aA _,by simp[da],λi hi=>bF hi,λu h=>h⟩
 have cs:∀x r,(pF cn hp.length).lookup x=ae r->(d.scope.names.lookup x=ae .cell\/(ah=ao/\d.scope.names.lookup x=ae .free))/\(x==("__debug__":bI))=ao/\(x==("__classdict__":bI))=ao/\r<hp.length+cn.length/\∃a,cl.lookup x=ae a/\da.ρ[r]? =ae a:=λx r e=>by
  erw [nn λzn=>?_,lE (Hb yT fX e) λh1 h2 aH=>?_,aK aH λa h3 h4=>?_,zn,-zn,-aH];have:=Mb x h2;exact⟨.inl this.1,this.2.1,this.2.2,h1,a,h3,h4⟩
 have H2:=H1.perm dw;have H3:=H2.push H2.Il H2.QI;have pa:∀{a b c d:List bp},(a++(b++(c++d))).Perm (b++(c++(a++d))):=λ{a b c d}=>(xW a b<|c++d).trans<|i8 b<|xW a c d;let c0:Fm:=⟨C.push L,A.in1,K,Zc cn hp.length,d.scope,d.ns,d.gs,d.qual,L,f,.ref<|f-1,cl,λu u=>False⟩;have S0:SA c0 (G9 cl (iz (cl.map (·.1)))++R) ω (d.ns.map λu=>aq) hp s1:=⟨fX,iz d.ns,r7,by rwa[af yT,H3.perm<|pa.cons _]⟩;have S1:=S0.Ha;have em:(cl.map λu=>AO.fb aq)=cn.map λu=>AO.fb aq:=by refine dq yT<|af uD ?_;rfl
 rw[em] at S1
 have rm0:Rm (C.push L) A.in1 0:=by
  obtain⟨a,b,c,l,d,e⟩:=rm.in1.le<|cM n;exact⟨a,b,c,l,d,λenv he=>let⟨x,L',y,z⟩:=e env he;⟨x,L',.tail _ y,z⟩⟩
 have r0:Rn c0 R ⟨da,hp.length+cn.length⟩:=⟨G1,F,rm0,sc,FR,cs,λu u u h=>h.elim,λu u u u u h=>h.elim⟩;have r1:DB c ⟨da,hp.length+cn.length⟩:=⟨G1,F,EH,sc,(by exact PassesOwn.leaving),cs⟩;have nZ:m<=ω.ρ.length:=by rwa[af fX,hm]
 have yU:∀{bb:Om},Agree (hp.length+cn.length) da bb->Agree m ω bb:=λh=>(Agree.le ex1 nZ).trans h<|az hm<|aU _ _
 have r:Rn c R ⟨da,hp.length+cn.length⟩:=⟨G1,F,EH,sc,r1.po,cs,λho ag S h q=>hO rfl rfl rfl rfl rfl r1 ho ag S h q,λx hp' bb a s' h1 ag h3 H'=>
  ph (L:=L) (fz Cq) (λenv he=>by
   rcases aV.mp he with rfl |q
   . exact⟨by refine af (show c.env.scope.kind=d.scope.kind from rfl)<|af sc.kind ?_;decide,L,.head _,rfl⟩
   . refine nn λzn=>?_;refine aT (sM env q) λx aH=>?_;refine aK aH λL' y z=>?_;refine zn ?_;clear zn;clear aH
     exact⟨x,L',.tail _ y,z⟩) rfl H' λlP Mu=>q2 x hp' bb a lP h1.1 (yU ag) h3 Mu.pop⟩
 have n0:Now c0 R ⟨da,hp.length+cn.length⟩ da (d.ns.map λu=>aq) (hp++cn.map λu=>.fb aq) s1:=⟨r0,.refl (by simp[da,fX,qeK]),S1⟩
 have hb0:=N4 (c:=c0) (Q:=λu s2=>s2.heap.NoLimit/\cQ (bc C) A (.func d.body c.env) Rr s2) n0 (Ts (hv.ext ex1) UB) hw λfr hp' s' hk n'=>by
  obtain⟨lx,Hx,-⟩:=n'.S.sat;refine⟨T.nolimit.keeps Hx.stays,vZ ?_⟩
  exact ss (c:=c) d.body (R:=R) (cC:=⟨da,hp.length+cn.length⟩) ⟨r,n'.g,n'.S⟩ hk λfl fr' hp' bb f' s' hk n' hf=>by
   obtain⟨jk,vs',-,H'⟩:=n'.S;have q3:=λw hw=>q1 (Nx fl) hp' bb w s' hk.1 (yU n'.g) jk hw H'.leave
   cases fl with
   |ret v=>rwa[aK hf λw aH hw=>?_,-hf,!aH,q3 w hw]
   |_=>rwa[!hf,q3 .none<|fK.mpr rfl]
 rw[vm UB] at hb0;exact cP hb0 (λu u h=>h) λu u h=>cq h
theorem nU{M:HO}{A:c5}{E:aG->aE->Prop}{s:aE}{env:DO}{e}{scope}{pos}{newAcc}{first}{g}{gs}{cl}{Q}(yT:clausesOf e=g::gs)(hs:∀x,oH g.iter env x=cg x)(qac:Um scope env=cg cl)(qad:scope.kind= .function)(UC:∀x∈scope.names,x.2= .local->scope.names.lookup x.1=ae .local)(h:a6 M A first (λx s₁=>aC M A (z0 x) (λit s₂=>aC M A newAcc (λgC s₃=>
 aC M A (eE scope env.globals cl [] env.qual aq .none<|ae env) (λcenv s₄=>
  cQ M A (.compStart e 0 it gC {cenv with scope:=Lq scope env}) (λr s'=>match r with
   |.ok _=>∃m,s'.heap.Ns cenv.locals m/\∀h',lu cenv.locals s'.heap h'->Q gC {s' with heap:=h'}
   |.error _=>False) s₄) E s₃) E s₂) E s₁) E s):
 a6 M A (qfm e scope env pos newAcc ao first aq) Q E s:=by
 unfold qfm;refine af qac<|af yT ?_
 refine aR<|b8 h (λx s₁ h₁=>ou<|aR<|fL (hs x)<|bh<|cL<|cP h₁ (λit s₂ h₂=>
  ?_) λz z h'=>h') λz z h'=>h'
 show a6 M A (newAcc>>=_) Q E s₂;refine bh<|cP h₂ (λgC s₃ h₃=>pC<|bh<|cP h₃ (λcenv s₄ h₄=>?_) λz z h'=>h') λz z h'=>h';dsimp only
 have hv:∀x∈(scope.names.filter λx=>(x.2== .local||x.2== .cell)&&x.1 !=(".0":bI)).reverse,x.2= .local->
  qeT {cenv with scope:=Lq scope env} x.1=ae .local:=λx hx hl=>tZ<|UC x (List.mem_filter.mp<|List.mem_reverse.mp hx).1 hl
 refine bJ<|aR<|uq<|bJ<|Ej<|m6 h₄ λr s' hr=>?_
 cases r with
 |ok f=>
  obtain⟨m,hn,hr⟩:=hr;exact a6.of<|CK<|wpAny_comp_letGo (cenv:={cenv with scope:=Lq scope env}) qad _ s' m hv hn λh' m' z Cp=>au<|hr h' Cp
 |error x=>exact hr.elim
theorem uN(h0:cQ (bx prog w) A (.compLoop (.ListComp sV (⟨target,iter,ifs,0⟩::rest) scope pos) 0 it gC env) R s)(h:aC (bx prog w) A (z0 it) (λit' s'=>cQ (bx prog w) A (.compLoop (.ListComp sV (⟨target,iter,ifs,0⟩::rest) scope pos) 0 it' gC env) R s')
 (λz z=>False) s):
 cQ (bx prog w) A (.compStart (.ListComp sV (⟨target,iter,ifs,0⟩::rest) scope pos) 0 it gC env) R s:=by
 erw [cT];show a6 _ _ ((compStart (.ListComp sV (⟨target,iter,ifs,0⟩::rest) scope pos) 0 it gC env).onRaise λx=>do qu x env;mL theWindowsPlace) _ _ s;refine gH<|b8 (E:=λz z=>False) ?_ (λz z q=>q) λz z q=>q.elim;unfold compStart;show a6 _ _ (ask>>=_) _ _ s;refine bh<|wpAny_askSetting ?_
 split
 . first
    |exact pC<|aY ⟨⟨rfl,rfl⟩,h0⟩
    |exact aY ⟨⟨rfl,rfl⟩,h0⟩
 . refine a6.of ?_
   first
    |exact rB<|ak<|Hr<|mB h λit' s' h'=>au<|w8 ⟨rfl,rfl⟩ h'
    |(refine rB ?_;show aC _ _ (mL iter.pos>>=_) _ _ s;exact ak<|Hr<|mB h λit' s' h'=>au<|w8 ⟨rfl,rfl⟩ h')
theorem wW{prog:oE}{w:iU}{A:c5}{R:zU->aE->Prop}{s:aE}{sV}{target}{iter}{scope}{pos}{it}{gC}{env}(I:Nat->aE->Prop)(turn:∀n s,I n s->aC (bx prog w) A (Ue it) (λr s₁=>match r with
 |none=>R (.ok .next) s₁
 |some v=>aC (bx prog w) A (gR target it v) (λz s₀=>aC (bx prog w) A (jq target env v) (λz s₂=>a6 (bx prog w) A (eval sV env) (λx s₃=>
  aC (bx prog w) A (i5 (.builtin "list.append") [gC,x]) (λz s₄=>∃m,m<n/\I m s₄) (λz z=>False) s₃)
  (λz z=>False) s₂) (λz z=>False) s₀) (λz z=>False) s₁) (λz z=>False) s) (n:Nat) (h:I n s):
 cQ (bx prog w) A (.compLoop (.ListComp sV [⟨target,iter,[],0⟩] scope pos) 0 it gC env) R s:=by
 refine qR rfl rfl I (λn s hI=>?_) n h;show a6 _ _ ((compTurn (.ListComp sV [⟨target,iter,[],0⟩] scope pos) 0 it gC env).onRaise λx=>do qu x env;rD x) _ _ s;erw [gH<|b8 (E:=λz z=>False) ?_ (λz z q=>q) λz z q=>q.elim,af (compTurn_list1 _ _ _ _ _ _ _ _),ou<|bh<|cP (turn n s hI) (λr s₁ h₁=>?_) λz z h'=>h']
 cases r with
 |none=>exact aY h₁
 |some v=>
  rwa[bh<|cP h₁ (λz s₀ h₀=>bh<|cP h₀ (λz s₂ h₂=>?_) λz z h'=>h') λz z h'=>h',aR<|aR<|b8 h₂ (λx s₃ h₃=>bh<|cP h₃ (λz s₄ h₄=>aY<|aY<|Or.inl ⟨rfl,h₄⟩) λz z h'=>h') λz z h'=>h']
def oh(C:br)(m:bI->Option aG):bp:=λg=>∃od es ep,od.cls= .type "dict"/\od.data= .dict es ep/\jj es/\(∀x,jV es x=m x)/\g=[(C,od)]
theorem zN(H:Sat C (oh a m::l) s):∃od es ep,od.cls= .type "dict"/\od.data= .dict es ep/\jj es/\(∀x,jV es x=m x)/\Sat C (pt a od::l) s:=by
 rwa[nn λzn=>?_,aT H λf aH=>?_,-H,aK aH λg cX t=>?_,-aH,dF cX λg1 g2 gW jl hg=>?_,-cX,!gW,mq jl λod es ep h1 h2 h3 h4 oN=>?_,zn,-zn,-jl,!oN,⟨od,es,ep,h1,h2,h3,h4,f,_,⟨_,_,rfl,rfl,hg⟩,t⟩]
theorem Ft(H:Sat C (oh a m::l) s):s.heap.Ns a m:=by
 rwa[mq (zN H) λod es ep h1 h2 h3 h4 H1=>?_,⟨od,es,ep,H1.get (by rwa[af h1,nofun]),h2,h3,h4⟩]
theorem BK(H:Sat C l s)(hc:∀x∈scope.names,x.2≠ .cell)(hQ:∀Cc s1,Sat C (oh Cc (λz=>aq)::l) s1->Q {scope,locals:=Cc,globals:=env.globals,cells:=cl,qual:=env.qual,func:=aq,code:=env.code,frame:=env.frame,builtins:=env.builtins} s1):
 aC (bc C) A (eE scope env.globals cl [] env.qual aq .none<|ae env) Q E s:=by
 simp only[eE,FO,if_true];refine ak<|tP ?_
 refine af (qeS cl (λx hx c=>by
  obtain⟨name,kind⟩:=x;have:(kind==qp)=ao:=by simpa using hc _ hx
  simp only[this,bE,if_false])) ?_
 rwa[pB<|pB<|au<|hQ _ _ ?_,(H.alloc (t:=s.toks) (o:={cls:=.type "dict",data:=.dict #[]}) rfl).imp λg hg=>?_,!hg,⟨_, #[],0,by(first |exact(ft _) |exact congrArg _ (ft _) |exact af (ft _) rfl),by(first |exact(c8 _) |exact congrArg _ (c8 _) |exact af (c8 _) rfl),λe he=>by simp at he,λx=>rfl,rfl⟩]
theorem rh(hk:scope.kind= .function)(hx:scope.names.lookup x=ae .local)(H:Sat C (oh a m::l) s)(q:∀s',Sat C (oh a (λz=>if z=x then ae v else m z)::l) s'->Q () s'):
 aC (bc C) A (gy (iI scope cl a env) x v) Q E s:=by
 refine mq (zN H) λod es ep h1 h2 h3 h4 H1=>?_;have e4:=H1.get (by rwa[af h1,nofun]);erw [af (B1 (env:=iI scope cl a env) (tZ hx) (by simp[iI,Lq,hk]) _),gP e4 h2 h3 λhash=>?_,Ct (gO h2 h3 x hash s.toks v) λCo ep' d1 d2 d3 d4 d5 d6 d7=>?_];have D':=bj (dy x hash (.str x s.toks) v) e4<|gq d1;have H5:=H1.set (t:=s.toks+1) (bu _ a<|dy x hash (.str x s.toks) v) D' (.inl ⟨λvs q=>by(rw[d1] at q;contradiction),d2⟩);rw[bU<|by rwa[af d2<|af h1 ?_,nofun]] at H5;exact q _ (H5.imp λg hg=>⟨_,Co,ep',d2.trans h1,d1,d5,λy=>by exact af (d6 _)<|af (h4 _) rfl,hg⟩)
theorem yJ(hk:scope.kind= .function)(hx:scope.names.lookup x=ae .local)(hd:(x==("__debug__":bI))=ao)(hm:m x=ae v)(H:Sat C (oh a m::l) s)(q:Q v s):
 aC (bc C) A (eval (.Name x pos)<|iI scope cl a env) Q E s:=
 rl (lH (env:=iI scope cl a env) hk (tZ hx) (Ft H) hm q) hd
theorem BL(H:Sat C (oh a m::l) s)(k:lu a s.heap h'):Sat C l {s with heap:=h'}:=by
 refine mq (zN H) λod es ep h1 h2 h3 h4 H1=>?_;have hb:=H1.rF;have e4:=H1.get (by rwa[af h1,nofun]);erw [nn λzn=>?_,aT H1 λf aH=>?_,-H1,aK aH λg cX th=>?_,-aH,dF cX λg1 g2 gW hg1 hg2=>?_,zn,-zn,-cX,!gW,!hg1];have nd:=th.nodup;rw[cN,bW,ly,cj,cO] at nd;refine⟨⟨λb ob eb=>(k.2 b λq=>by rw[q,hb] at eb;contradiction).trans<|f.stays b ob eb,f.gens,f.drawn,f.os,λL hL=>?_⟩,g2,hg2,nd.2,λx hx=>?_,λx hx=>th.new x<|a5 _ hx⟩
 . refine nn λzn=>?_;refine aT (f.live L hL) λlb aH=>?_;refine aK aH λol el nl=>?_;refine zn ?_;clear zn;clear aH
   refine⟨lb,ol,(k.2 L λq=>?_).trans el,nl⟩;rw[q,e4] at el;injection el with el;subst el
   rw[h1] at nl;simp at nl
 . refine aK (th.at_ x<|a5 _ hx) λox ex nx=>?_
   rwa[(bV ox ((k.2 _ λq=>nd.1 ?_).trans ex) nx),dW.mpr<|bV x hx q]
def UD(c:Fm)(n0:Nat)(fr:Frs)(sV target:Expr)(scope:kE)(cl:List (bI×br))(xs:List AV)(J:Nat->List AV->List AO->Prop)(ω:Om):Prop:=
 ∀{i:Nat} {x:AV} {w:aG} {da:Om} {ee:List AO} {ys:List AV} {R1:List bp} {Cc:br} {m:bI->Option aG} {s1:aE},xs[i]? =ae x->J i ys ee->Agree n0 ω da->x.Is da w->SA c (oh Cc m::R1) da fr ee s1->
  aC (bc c.C) c.A (jq target (iI scope cl Cc c.env) w) (λz s2=>a6 (bc c.C) c.A (eval sV<|iI scope cl Cc c.env) (λy s3=>∃m' ip fO yv,yv.Is ip y/\yv.cl (λz=>ao)=ah/\Agree n0 da ip/\SA c (oh Cc m'::R1) ip fr fO s3/\J (i+1) (ys++[yv]) fO) (λz z=>False) s2) (λz z=>False) s1
theorem N7(h:Vs ω as vs)(k:a.Is ω v):Vs ω (as++[a]) (vs++[v]):=h.append<|.cons k .nil
theorem BM:∀{as:List AV} {a:AV},AV.cls (λz=>ao) as=ah->a.cl (λz=>ao)=ah->AV.cls (λz=>ao) (as++[a])=ah
 |[],a,_,h=>by simp[AV.cls,h]
 |b::as,a,h,k=>by
  refine aT (fj<|show(b.cl (λz=>ao)&&AV.cls (λz=>ao) as)=ah from h) λh1 h2=>?_;show(b.cl (λz=>ao)&&AV.cls (λz=>ao) (as++[a]))=ah;rw[h1,BM h2 k];rfl
theorem BN(h:Vs ω as vs)(hc:AV.cls (λz=>ao) as=ah)(t:∀p∈ω.τ,p∈bb.τ):Vs bb as vs:=
 iY.mp (AV.yj.mv (c:=λz=>ao) ⟨(λz z h z=>by contradiction),t⟩ as hc<|iY.mpr h)
theorem He{ad}(h:B9 ob=ae xs)(H:Sat C (ob.P ω ad::l) s):
 ∃vs,Vs ω xs vs/\Sat C (jJ ad vs::l) s/\∀bb g,mh ω bb->jJ ad vs g->ob.P bb ad g:=by
 cases ob with
 |lst ys=>
  injection h with h;subst h
  refine nn λzn=>?_;obtain⟨vs,H2⟩:=Sat.ex.mp H;obtain⟨hv,H2⟩:=Sat.pure.mp H2;rwa[zn,-zn,(oK vs hv H2 λbb g ex hg=>⟨vs,hv.ext ex,hg⟩)]
 |ll ys=>
  injection h with h;subst h
  refine nn λzn=>?_;obtain⟨hc,H1⟩:=Sat.pure.mp H;obtain⟨vs,H2⟩:=Sat.ex.mp H1;obtain⟨hv,H2⟩:=Sat.pure.mp H2;rwa[zn,-zn,(oK vs hv H2 λbb g ex hg=>⟨hc,vs,hv.ext ex,hg⟩)]
 |_=>contradiction
theorem BO{c:Fm}{cC:Bs}{R:List bp}{ω:Om}{fr:Frs}{hp:List AO}{s:aE}{sV:Expr}{target:Expr}{iter:Expr}{scope:kE}{pos:PySem.Pos}{cl:List (bI×br)}{rr:Nat}{ad:br}{xs:List AV}{ob:AO}{J:Nat->List AV->List AO->Prop}{Q:aG->aE->Prop}(r:DB c cC)(S:SA c R ω fr hp s)(ea:ω.ρ[rr]? =ae ad)(eob:hp[rr]? =ae ob)(hlp:B9 ob=ae xs)(hz:xs.length<=1000)(xg:∀x∈scope.names,x.2≠ .cell)(L9:J 0 [] (hp.set rr .gone))(hJ:∀i ys ee,J i ys ee->ee[rr]? =ae .gone)(turn:UD c hp.length fr sV target scope cl xs J ω)(q:∀ys ee da a s',J xs.length ys ee->Agree hp.length ω da->(AV.ref ee.length).Is da (.ref a)->SA c R da fr (ee.set rr ob++[.ll ys]) s'->Q (.ref a) s'):
 aC (bc c.C) c.A (z0<|.ref ad) (λit s₂=>aC (bc c.C) c.A (newList []) (λgC s₃=>aC (bc c.C) c.A (eE scope c.env.globals cl [] c.env.qual aq .none<|ae c.env) (λcenv s₄=>
  cQ (bc c.C) c.A (.compStart (.ListComp sV [⟨target,iter,[],0⟩] scope pos) 0 it gC {cenv with scope:=Lq scope c.env}) (λr s'=>match r with
   |.ok _=>∃m,s'.heap.Ns cenv.locals m/\∀h',lu cenv.locals s'.heap h'->Q gC {s' with heap:=h'}
   |.error _=>False) s₄) c.E s₃) c.E s₂) c.E s:=by
 have KH:=S.1;erw [nn λzn=>?_,aK (S.take eob) λEu dU aH=>?_,aK aH λl H1 put=>?_,-aH];rw[ea] at dU;injection dU with dU;subst dU
 erw [dh (He hlp H1) λvs hv H2 Zd=>?_,zn,-zn];have fX:xs.length=vs.length:=hv.length;have hr:rr<hp.length:=(bg.mp eob).1;have hh:=r.rm.handled;erw [vT H2 λit s3 H3=>?_,j0 ?_<|by show(0:Nat)<=lJ;exact cM _];have H4:=pQ (xs:=[]) (t':=s3.toks) H3;generalize s3.heap.objs.size=gC at H4 |-;refine BK H4 xg λCc s5 H5=>?_;have S5:SA c (oh Cc (λz=>aq)::jJ gC []::vS it ad vs 0::R) ω fr (hp.set rr .gone) s5:=(put _ _<|Sat.unpack (l:=[_,_,_]) |>.mpr H5).un3
 have loop:∀s',SA c (oh Cc (λz=>aq)::jJ gC []::vS it ad vs 0::R) ω fr (hp.set rr .gone) s'->
  cQ (bc c.C) c.A (.compLoop (.ListComp sV [⟨target,iter,[],0⟩] scope pos) 0 (.ref it) (.ref gC)<|iI scope cl Cc c.env) (λr s'=>match r with
   |.ok _=>∃m,s'.heap.Ns Cc m/\∀h',lu Cc s'.heap h'->Q (.ref gC) {s' with heap:=h'}
   |.error _=>False) s':=λs' S'=>by
  refine wW (λn s=>∃i ys P2 da ee m,n=vs.length+1-i/\i<=vs.length/\J i P2 ee/\Agree hp.length ω da/\Vs da P2 ys/\AV.cls (λz=>ao) P2=ah/\P2.length=i/\SA c (oh Cc m::jJ gC ys::vS it ad vs i::R) da fr ee s)
   (λn s hI=>?_) _ (qa7 0 [] [] ω (hp.set rr .gone) _ rfl (cM _) L9 (.refl<|by refine af KH ?_;exact aA _) .nil rfl rfl S')
  erw [qbe hI λi ys P2 da ee m aH hi hj yU HW HY Qs S1=>?_,-hI,!aH];have S2:=S1.ur<|((gD ..).cons _).trans<|.swap ..;erw [nn λzn=>?_,dh S2.out λl2 H6 b1 b2=>?_];by_cases ju:i<vs.length<;>(refine zn ?_;clear zn)
  . refine(mx hh).item i l2 _ _ _ ju H6 λv s7 ev H7=>?_
    erw [nn λzn=>?_,aT (Sat.unpack.mp H7) λfrm aH=>?_,aK aH λg cX tt=>?_,-aH,dF cX λg1 g2 gW jl hg=>?_,-cX,!gW,dh jl λo oN h1 h2=>?_,zn,-zn,-jl,!oN];have H0:Sat c.C (pt it o::jJ ad vs::l2) s7:=⟨frm,_,⟨_,_,rfl,rfl,hg⟩,tt⟩;erw [Bj (H0.get<|by rwa[af h1,nofun]) h1 h2 (by rfl),aK (JT hv ev) λx ex hx=>?_];have S7:SA c (oh Cc m::jJ gC ys::vS it ad vs (i+1)::R) da fr ee s7:=(b1 _ _ H7).ur<|(gD ..).trans<|(gD ..).cons _;have hx1:x.Is da v:=AV.Is.ext (show mh ω da by show Agree ω.ρ.length ω da;rwa[af KH,yU]) hx;rwa[mE (turn ex hj yU hx1 S7) λz s8 h8=>b8 h8 (λy s9 h9=>?_) λz z h=>h,nn λzn=>?_,qbc h9 λm' ip fO yv hy hyc Ze S9 hj2=>?_,-h9,dh ((S9.ur<|.swap ..).out) λl3 H9 d1 d2=>?_,zn,-zn,Sat.Ex H9 (by rwa[dq HW.length<|af Qs ?_,‹a<=1000->a==b->c<b->c<1000000› hz fX ju]) λs10 H10=>?_,⟨vs.length+1-(i+1),by exact‹a+1<=b+c->d+(c+1)=a+1->d<b› (oM _ _) (ay<|‹a<b->a+1<=b+1› ju),i+1,ys++[y],P2++[yv],ip,fO,m',rfl,ju,hj2,yU.trans Ze<|aA _,N7 (BN HW HY Ze.tups) hy,BM HY hyc,by simp[Qs],(d1 _ _ H10).ur<|.swap ..⟩]
  . have hie:i=vs.length:=xT (hi) ((a8 ju))
    erw [!hie,(mx hh).fin l2 _ _ _ H6 λs7 H7=>?_];have S7:SA c (oh Cc m::jJ gC ys::jJ ad vs::R) da fr ee s7:=(b1 (jJ ad vs) _ H7).ur<|(gD ..).trans<|(gD ..).cons _;erw [dh S7.out λl3 H8 d1 d2=>?_,(bV m (Ft H8) λh' Cp=>?_)];have S8:=d2 _<|BL H8 Cp;have S9:=(S8.ur<|.swap ..).give (i:=rr) (o:=ob) (hJ _ _ _ hj) ((yU.same rr hr).trans ea) λg hg=>Zd da g (show mh ω da by show Agree ω.ρ.length ω da;rwa[af KH,yU]) hg;have S10:=S9.adopt (o:=.ll P2) λg hg=>⟨HY,ys,BN HW HY (Om.gd (x:=gC)).tups,hg⟩;have hl9:=S9.1;rw[cG] at hl9;exact q P2 ee (da.add gC) gC _ (by rwa[af fX,hj]) (yU.ext Om.gd) (gY.mpr<|bV gC (by rwa[dq hl9,Om.zc]) rfl) S10
 erw [uN (loop s5 S5),nn λzn=>?_,dh ((S5.ur<|((gD ..).cons _).trans<|.swap ..).out) λl2 H6 b1 b2=>?_,aT (Sat.unpack.mp H6) λfrm aH=>?_,aK aH λg cX tt=>?_,-aH,dF cX λg1 g2 gW jl hg=>?_,-cX,!gW,dh jl λo oN h1 h2=>?_,zn,-zn,-jl,!oN];have H0:Sat c.C (pt it o::jJ ad vs::l2) s5:=⟨frm,_,⟨_,_,rfl,rfl,hg⟩,tt⟩;exact wpAny_pyIter_listiter ⟨o,H0.get (by rwa[af h1,nofun]),h1,h2⟩<|loop s5 S5
noncomputable def uw(x:AV):AV:=match x with |.tup xs=>xs.headD .none |_=>.none
noncomputable def qB(x:AV):Bool:=match x with |.tup [y,_]=>y.cl λz=>ao |_=>ao
theorem Hf(h:qB x=ah):∃y z,x= .tup [y,z]/\(y.cl λu=>ao)=ah:=by
 unfold qB at h
 split at h
 . exact(vE _ _ rfl h)
 . contradiction
noncomputable def scA(scope:kE)(a b:bI):Bool:=scope.kind== .function&&(scope.names.all (λx=>x.2== .local&&scope.names.lookup x.1==ae .local)&&(scope.names.lookup a==ae .local&&(scope.names.lookup b==ae .local&&(!(a==b)&& !(a==("__debug__":bI))))))
theorem KI{tp:PySem.Pos}{rr:Nat}(r:DB c cC)(OP:scA scope a b=ah)(OG:∀x,oH iter c.env x=cg x)(hev:a6 (bc c.C) c.A (eval iter c.env) (λv s1=>∃ad,v= .ref ad/\ω.ρ[rr]? =ae ad/\SA c R ω fr hp s1) c.E s)(eob:hp[rr]? =ae ob)(hlp:B9 ob=ae xs)(hz:xs.length<=1000)(fO:xs.all qB=ah)(q:∀da ad s',mh ω da->(AV.ref hp.length).Is da (.ref ad)->SA c R da fr (hp++[.ll<|xs.map uw]) s'->Q (.ref ad) s'):
 a6 (bc c.C) c.A (eval (.ListComp (.Name a p1) [⟨.Tuple [.Name a p2,.Name b p3] kk tp,iter,[],0⟩] scope pos) c.env) Q c.E s:=by
 simp only[scA,bG,a4,beq_iff_eq,dC] at OP;erw [qa9 OP λhk HG ha hb hab had=>?_,-OP];have hab:a≠b:=by simpa using hab
 erw [af (qfn _ _ _ _),nU (cl:=[]) rfl OG (closureFor_none λx hx=>by erw [af ((HG x hx).1)];decide) hk (λx hx u=>(HG x hx).2),Pb hev λv s1 h1=>?_,dh h1 λad aH ea S=>?_,-h1,!aH];have hr:rr<hp.length:=(bg.mp eob).1;refine BO (J:=λi ys ee=>ee=hp.set rr .gone/\ys=(xs.take i).map uw) r S ea eob hlp hz (λx hx=>by erw [af ((HG x hx).1)];decide) ⟨rfl,by simp⟩ (λi ys ee h=>by erw [af h.1];simp[hr]) ?_ ?_
 . rintro i x w da ee ys R1 Cc m s2 ex ⟨rfl,rfl⟩ yU hx S2
   erw [n6 (Hf<|a4.mp fO x<|dv ex) λy z aH hy=>?_,!aH]
   obtain⟨T,us,hm,rfl,hus⟩:∃T us,(T,Fz.tup us)∈da.τ/\w= .ref T/\Vs da [y,z] us:=by
    rwa[dF hx λT us h1 h2 h3=>?_,-hx,(qJ T us h1 h2<|iY.mp h3)]
   refine nn λzn=>?_;obtain⟨u1,u2,rfl,hu1⟩:∃u1 u2,us=[u1,u2]/\y.Is da u1:=by
    cases hus with |cons p r=>cases r with |cons p2 r=>cases r;exact(vE _ _ rfl p)
   erw [c4 (S2.tup hm) λlt Ht=>?_,zn,-zn];have Ht:Sat c.C (Z4 T [u1,u2]::lt) s2:=Ht;refine dh S2.out λl2 H2 b1 b2=>(Uj r.rm.handled Ht.tup rfl rfl λh₁ Cd=>?_);have H3:=H2.za Cd;show aC _ _ (pH [jq (.Name a p2) _,jq (.Name b p3) _] [u1,u2]) _ _ _;erw [Un<|oV<|rh hk ha H3 λs4 H4=>Un<|oV<|rh hk hb H4 λs5 H5=>assignInOrder_nil ?_,a6.of (yJ hk ha had (v:=u1) (by exact af (if_neg hab)<|af (if_pos rfl) rfl) H5<|qa5 _ da _ y hu1 hy (.refl yU.l2) (b1 _ _ H5) rfl ?_),af uA<|af ex<|af cN ?_];rfl
 . rintro ys ee da ad2 s2 ⟨rfl,rfl⟩ yU Vc S2
   have e1:(hp.set rr .gone).set rr ob=hp:=af (uE _)<|af (Fq eob) rfl;rw[e1,dP] at S2;rw[cG] at Vc;exact q da ad2 s2 (show Agree ω.ρ.length ω da by rwa[af S.1,yU]) Vc S2
noncomputable def Fm.BP(c:Fm):Fm:={c with p:=⟨c.p.N,λz z=>.ff,c.p.cm,c.p.cw,λz z z z=>.ff⟩,E:=λz z=>False}
theorem DB.rn0(r:DB c cC):Rn c.BP R cC:=⟨r.G,r.F,r.rm,r.sc,FR,r.cs,λz z z h=>h.elim,λz z z z z h=>h.elim⟩
theorem qm{env:DO}{names:List (bI×D1)}:∀{x:bI},names.lookup x=ae .free->env.scope.kind= .function->env.kindOf x=ae .cell->
 (names.map λ(n,k)=>if(k==xm&&env.scope.kind== .function&&env.kindOf n==ae .cell) then(n,qp) else(n,k)).lookup x=ae .cell:=by
 induction names with
 |nil=>
  intro _ h _ _;trivial
 |cons zp r ih=>
  obtain⟨n,k⟩:=zp;intro x h h1 h2;show FT x ((if(k==xm&&env.scope.kind== .function&&env.kindOf n==ae .cell)=ah then(n,qp) else(n,k))::_)=_
  cases hx:x==n with
  |true=>
   simp only[dN,hx] at h;injection h with h;subst h
   have e:=beq_iff_eq.mp hx;rwa[!e,af (if_pos<|by simp[h1,h2])<|List.lookup_cons_self]
  |false=>
   simp only[dN,hx] at h;by_cases hc:(k==xm&&env.scope.kind== .function&&env.kindOf n==ae .cell)=ah
   . erw [af (if_pos hc)];simp only[dN,hx];exact ih h h1 h2
   . erw [af (if_neg hc)];simp only[dN,hx];exact ih h h1 h2
def xN(p:Pm)(cs:List (bI×Nat))(pk cd:bI)(y:Nat)(rr:Nat)(b:Bool)(hp:List AO)(k:List AO->VC):VC:=
 aX (cs.lookup pk) λr1=>Gx r1 hp λv1=>oZ v1 λi=>aX hp[i]? λob=>aX (Ca ob) λm=>aX (mt m y) λf=>aX (cs.lookup cd) λr2=>Gx r2 hp λv2=>
  .cl p.N f [.ref i,v2,.bool b] hp λr fO=>r.el (λv=>match v with |.none=>aX fO[rr]? λo=>wA o (k fO) |_=>.ff) λz=>.ff
section
variable{scope:kE}
theorem yK{r:Nat}(hk:scope.kind= .function)(hf:scope.names.lookup x=ae .free)(Vd:c.scope.kind= .function)(Mb:c.scope.names.lookup x=ae .cell)(hd:(x==("__debug__":bI))=ao)(ha:cl.lookup x=ae a)(er:ω.ρ[r]? =ae a)(ev:hp[r]? =ae (.fb<|ae v))(S:SA c R ω fr hp s)(q:∀w,v.Is ω w->Q w s):aC (bc c.C) A (eval (.Name x p)<|iI scope cl Cc c.env) Q E s:=by
 refine nn λzn=>?_;obtain⟨ad,dU,l,H,-,-⟩:=S.obj ev;rw[er] at dU;injection dU with dU;subst dU
 refine c4 (Sat.ex.mp H) λw H1=>(aT (Sat.pure.mp H1) λhw H2=>(yW (Rl.is H2) λo H3 hd3 Uy e0=>?_))
 cases w with
 |none=>rwa[zn,-zn,hw.elim]
 |some w=>rwa[zn,-zn,rl (Qk (env:=iI scope cl Cc c.env) hk (qm hf Vd Mb) ha ⟨o,e0,hd3⟩<|q w hw) hd]
noncomputable def Zf(scope:kE)(pk cd x:bI):Bool:=scope.kind== .function&&(scope.names.all (λy=> !(y.2== .cell)&&(!(y.2== .local)||scope.names.lookup y.1==ae .local))&&(scope.names.lookup pk==ae .free&&(scope.names.lookup cd==ae .free&&(scope.names.lookup x==ae .local&&
 (!(pk==("__debug__":bI))&&(!(cd==("__debug__":bI))&& !(x==("__debug__":bI))))))))
theorem Hg(r:DB c cC)(g:Agree cC.m cC.o ω)(OP:Zf scope pk cd x=ah)(Vd:c.scope.names.lookup pk=ae .cell/\c.scope.names.lookup cd=ae .cell)(yT:F2 (λ(p:bI×Nat) (q:bI×br)=>q.1=p.1/\ω.ρ[p.2]? =ae q.2) cs cl)(xd:(apos.endLine==pos.line)=ah)(hy:(xN c.p cs pk cd (xM nm) rr b hp k).H)(hm:m x=ae (.bool b))(S:SA c (oh Cc m::R1) ω fr hp s)(q:∀fO ip s',fO[rr]? =ae .gone->(k fO).H->mh ω ip->SA c (oh Cc m::R1) ip fr fO s'->Q .none s'):
 a6 (bc c.C) c.A (eval (.Call (.Attribute (.Name pk q1) nm apos) [.Name cd q2,.Name x q3] [] pos)<|iI scope cl Cc c.env) Q (λz z=>False) s:=by
 simp only[Zf,bG,a4,beq_iff_eq,dC] at OP;refine nn λzn=>?_;obtain⟨hk,-,hfp,hfc,hlx,d1,d2,d3⟩:=OP;unfold xN at hy
 (apply bq hy;intro r1 e1 hy)
 refine aK (wu hy) λv1 ev1 hy=>?_
 (apply zf hy;intro i e2 hy)
 subst e2
 (apply bq hy;intro ob eo hy)
 (apply bq hy;intro mm ec hy)
 (apply bq hy;intro f ef hy)
 (apply bq hy;intro r2 e3 hy)
 erw [aK (wu hy) λv2 ev2 hy=>(aK (wV yT e1) λa1 ha1 hr1=>(aK (wV yT e3) λa2 ha2 hr2=>?_)),zn,-zn,vf rfl xd rfl (by show 2<29;exact aa rfl)<|a6.of<|yK hk hfp r.sc.kind Vd.1 d1 ha1 hr1 ev1 S λw1 hw1 pl=>?_,aK (gY.mp hw1) λad ea aH=>?_,!aH,nn λzn=>?_];obtain⟨mk,Z8,-⟩:=Iz r.F ef;refine aK (Cz ef) λy hyy Z9=>?_;rw[<-ug rfl (AG _ hyy _ Z9).1] at mk Z8;obtain⟨Eu,dU,l0,H0,-⟩:=S.obj eo;rw[ea] at dU;injection dU with dU;subst dU
 erw [vF (Be ec H0) λvs' l Hi=>(yX (AN r.F<|bB _ (AG _ hyy _ Z9).2) λoc od fd osl OE=>?_),zn,-zn,AA r.G mk (.head _) Z8 Hi<|v5 (first:=[.ref ad]) (ob:=⟨oc,od,.func fd,osl⟩) (fd:=fd)<|kA (jm rfl)<|kG<|a6.of<|yK hk hfc r.sc.kind Vd.2 d2 ha2 hr2 ev2 S λw2 hw2=>kG<|a6.of ?_,dh S.out λl2 H2 b1 b2=>?_,yJ hk hlx d3 hm H2<|rJ ⟨⟨r.G.X H2 _ _ OE,rfl⟩,eK ?_⟩];have n:Now c.BP (oh Cc m::R1) cC ω fr hp s:=⟨r.rn0,g,S⟩
 exact rY (c:=c.BP) (k:=λv fO=>match v with |.none=>aX fO[rr]? λo=>wA o (k fO) |_=>.ff) n hy (.cons hw1<|.cons hw2<|.cons (gj.mpr rfl) .nil) λv fO ip w s' mf ex hv S2=>by
  cases v with
  |none=>
   erw [nn λzn=>?_,aK (bX<|show(aX fO[rr]? λo=>wA o<|k fO).H from mf) λo MV Cb=>?_,aT (wB Cb) λaH hk4=>?_,zn,-zn,!aH];obtain rfl:=fK.mp hv;exact q fO ip s' MV hk4 ex S2
  |_=>exact mf.elim
theorem KJ(r:DB c cC)(g:Agree cC.m cC.o ω)(S:SA c R ω fr hp s)(OP:Zf scope pk cd x=ah)(Vd:c.scope.names.lookup pk=ae .cell/\c.scope.names.lookup cd=ae .cell)(HY:uM c.p.cm scope.names []=ae cs)(xd:(apos.endLine==cpos.line)=ah)(hy:(xN c.p cs pk cd (xM nm) hp.length ao (hp++[.gone]) λee=>xN c.p cs pk cd (xM nm) hp.length ah ee λfO=>k (.ref fO.length)<|fO.set hp.length (.lst [.bool ao,.bool ah])++[.ll [.none,.none]]).H)(hQ:Done c R ω fr k Q):
 a6 (bc c.C) c.A (eval (.ListComp (.Call (.Attribute (.Name pk q1) nm apos) [.Name cd q2,.Name x q3] [] cpos) [⟨.Name x q4,.List [.Constant (.bool ao) z1 q5,.Constant (.bool ah) z2 q6] q7,[],0⟩] scope pos) c.env) Q c.E s:=by
 have Tv:=OP;simp only[Zf,bG,a4,beq_iff_eq,dC,Bool.or_eq_true] at Tv;erw [nn λzn=>?_,Vi Tv λhk HG hfp hfc hlx d1 d2 d3=>?_,-Tv]
 obtain⟨cl,yT,N5⟩:=qA (env:=c.env) (ω:=ω) (scope:=scope) (λx r1 e=>by
  obtain⟨-,-,-,h4,a,h5,h6⟩:=r.cs x r1 e
  exact(bV a h5<|(g.same r1 h4).trans h6)) HY
 erw [zn,-zn];have xg:∀y∈scope.names,y.2≠ .cell:=λy hy2=>by simpa using(HG y hy2).1
 erw [af (qfn _ _ _ _),nU (cl:=cl) rfl (λz=>rfl) N5 hk (λy hy2 hl=>((HG y hy2).2).resolve_left<|by rwa[af hl,nofun])];have n:Now c.BP R cC ω fr hp s:=⟨r.rn0,g,S⟩
 have hev:=(yS (c:=c.BP)<|.List [.Constant (.bool ao) z1 q5,.Constant (.bool ah) z2 q6] q7).v n (k:=λv ee=>.nd (v= .ref hp.length/\ee=hp++[.lst [.bool ao,.bool ah]]) .tt) (show VC.H (.nd _ .tt) from⟨⟨rfl,rfl⟩,trivial⟩)
  (Q:=λv s1=>∃da ad,v= .ref ad/\da.ρ[hp.length]? =ae ad/\mh ω da/\SA c R da fr (hp++[.lst [.bool ao,.bool ah]]) s1) (λv ee da w s1 hk ex hv S1=>by
   obtain⟨⟨rfl,rfl⟩,-⟩:=hk;erw [aK (gY.mp hv) λad ea aH=>?_,!aH]
   exact(F5 da ad rfl ea ex S1))
 erw [b8 hev (λv s1 h1=>?_) λz z h=>h.elim,Vk h1 λda ad aH ea ex S1=>?_,-h1,!aH]
 have nZ:cC.m<=(hp++[AO.lst [.bool ao,.bool ah]]).length:=by
  have:=g.l2;rw[S.1] at this;simp;exact pK this
 have g1:Agree cC.m cC.o da:=g.ext ex;have qeL:F2 (λ(p:bI×Nat) (q:bI×br)=>q.1=p.1/\da.ρ[p.2]? =ae q.2) cs cl:=yT.imp λp q h=>⟨h.1,ex.at h.2⟩
 refine BO (rr:=hp.length) (xs:=[.bool ao,.bool ah]) (J:=λi ys ee=>ee[hp.length]? =ae .gone/\match i with
  |0=>ys=[]/\(xN c.p cs pk cd (xM nm) hp.length ao ee λee=>xN c.p cs pk cd (xM nm) hp.length ah ee λfO=>k (.ref fO.length)<|fO.set hp.length (.lst [.bool ao,.bool ah])++[.ll [.none,.none]]).H
  |1=>ys=[.none]/\(xN c.p cs pk cd (xM nm) hp.length ah ee λfO=>k (.ref fO.length)<|fO.set hp.length (.lst [.bool ao,.bool ah])++[.ll [.none,.none]]).H
  |_=>ys=[.none,.none]/\(k (.ref ee.length)<|ee.set hp.length (.lst [.bool ao,.bool ah])++[.ll [.none,.none]]).H) r S1 ea (ob:=.lst [.bool ao,.bool ah]) (xX) rfl (aa rfl) xg ?_ (λi ys ee h=>h.1) ?_ ?_
 . have e1:(hp++[AO.lst [.bool ao,.bool ah]]).set hp.length .gone=hp++[.gone]:=by simp
   erw [af e1];exact⟨by exact xX,rfl,hy⟩
 . intro i x0 w ip ee ys R1 Cc m s2 LR hj yU hx S2
   have ext2:mh da ip:=show Agree da.ρ.length da ip by rwa[af S1.1,yU]
   have g2:Agree cC.m cC.o ip:=g1.ext ext2;have qeM:F2 (λ(p:bI×Nat) (q:bI×br)=>q.1=p.1/\ip.ρ[p.2]? =ae q.2) cs cl:=qeL.imp λp q h=>⟨h.1,ext2.at h.2⟩;erw [nn λzn=>?_,dh S2.out λl2 H2 b1 b2=>?_];obtain⟨L9,hj⟩:=hj
   refine zn ?_;clear zn;have go:∀{b:Bool} {kk:List AO->VC} {Qx:aG->aE->Prop},x0= .bool b->(xN c.p cs pk cd (xM nm) hp.length b ee kk).H->(∀fO m' s3 LP,fO[hp.length]? =ae .gone->(kk fO).H->Agree (hp++[AO.lst [.bool ao,.bool ah]]).length ip LP->SA c (oh Cc m'::R1) LP fr fO s3->Qx .none s3)->
    aC (bc c.C) c.A (jq (.Name x q4) (iI scope cl Cc c.env) w) (λz s2=>a6 (bc c.C) c.A (eval (.Call (.Attribute (.Name pk q1) nm apos) [.Name cd q2,.Name x q3] [] cpos)<|iI scope cl Cc c.env) Qx (λz z=>False) s2) (λz z=>False) s2:=λ{b kk Qx} e hw hq=>by
    subst e;obtain rfl:=gj.mp hx;refine oV<|rh hk hlx H2 λs3 H3=>?_;refine Hg r g2 OP Vd qeM xd hw (by(first |exact(if_pos rfl) |exact congrArg _ (if_pos rfl) |exact af (if_pos rfl) rfl)) (b1 _ _ H3) λfO LP s4 h1 h2 h3 S4=>hq fO _ s4 LP h1 h2 (Agree.le h3 yU.l2) S4
   match i,LR,hj with
   |0,LR,hj=>exact go (by(injection LR with LR;subst LR);rfl) hj.2 λfO m' s3 LP h1 h2 h3 S3=>⟨m',LP,fO,.none,fK.mpr rfl,rfl,h3,S3,h1,by erw [af hj.1];rfl,h2⟩
   |1,LR,hj=>exact go (by(injection LR with LR;subst LR);rfl) hj.2 λfO m' s3 LP h1 h2 h3 S3=>⟨m',LP,fO,.none,fK.mpr rfl,rfl,h3,S3,h1,by erw [af hj.1];rfl,h2⟩
   |i+2,LR,hj=>contradiction
 . intro ys ee ip ad2 s2 hj yU Vc S2
   obtain⟨L9,rfl,hj2⟩:=hj;exact hQ _ _ _ _ _ hj2 (ex.trans (show Agree da.ρ.length da ip by rwa[af S1.1,yU])<|ex.l2) Vc S2
end
noncomputable def P4(o:AO)(k:List Lm->bI->Nat->VC):VC:=match o with |.tA ms q p=>k ms q p |_=>.ff
theorem Hh(h:(P4 o k).H):∃ms q p,o= .tA ms q p/\(k ms q p).H:=by
 cases o<;>first |exact(Me _ _ _ rfl h) |exact cq h
noncomputable def DD:List (Nat×Nat):=[(1245,1243),(1264,1262)]
structure Own where
 N:Nat
 q:Str
 cc:Nat
 j:Nat
 cm:List (Str×Nat)
 cn:List Str
 ns:List Str
noncomputable def qaK(w:Own)(lm:Lm)(hp:List AO)(k:AV->List AO->VC):VC:=
 aX (uM w.cm lm.scope.names []) λcs=>aX hp[w.j]? λo=>P4 o λms q' P=>.nd (lm∈ms/\w.q++"<lambda>"=q'/\(w.cc,P)∈DD/\lm.params=t9)<|k (.ref hp.length)<|hp++[.fn lm q' cs]
def Tw(w:Own)(a a2 b it:bI)(scope:kE)(fr:Frs)(hp:List AO)(k:AV->List AO->VC):VC:=
 rP (a==a2&&(scA scope a b&&w.ns.contains it)) <| aX fr[w.ns.idxOf it]? λo=>aX o λv=>oZ v λrr=>aX hp[rr]? λob=>aX (B9 ob) λxs=>.nd (xs.length<=1000/\xs.all qB=ah)<|k (.ref hp.length)<|hp++[.ll<|xs.map uw]
def Tx(w:Own)(pk cd x x2 nm:bI)(line:Bool)(scope:kE)(hp:List AO)(k:AV->List AO->VC):VC:=
 rP (x==x2&&(Zf scope pk cd x&&(w.cn.contains pk&&(w.cn.contains cd&&line)))) <| aX (uM w.cm scope.names []) λcs=>
  xN ⟨w.N,λz z=>.ff,w.cm,ah,λz z z z=>.ff⟩ cs pk cd (xM nm) hp.length ao (hp++[.gone]) λee=>xN ⟨w.N,λz z=>.ff,w.cm,ah,λz z z z=>.ff⟩ cs pk cd (xM nm) hp.length ah ee λfO=>k (.ref fO.length)<|fO.set hp.length (.lst [.bool ao,.bool ah])++[.ll [.none,.none]]
noncomputable def Tz(b:Bool)(c:Const):Bool:=match c with |.bool d=>b==d |_=>ao
noncomputable def two{α β:Type}(l:List α)(d:β)(k:α->α->β):β:=match l with |[a,b]=>k a b |_=>d
noncomputable def TA(l:List pG):Option (Expr×Expr):=match l with
 |[⟨t,i,[],k⟩]=>Zg (t,i)<|k==0
 |_=>aq
where Zg (r:Expr×Expr):Bool->Option (Expr×Expr) |true=>ae r |false=>aq
section
variable{P:Expr->Prop}
theorem BQ(h:(aX (eS e) k).H)(q:∀x p,(k (x,p)).H->P (.Name x p)):P e:=aK (bX h) λr e1 h=>af (gG e1)<|q r.1 r.2 h
theorem Zh(h:(aX (qN e) k).H)(q:∀l n p,(k (l,n,p)).H->P (.Tuple l n p)):P e:=aK (bX h) λr e1 h=>af (mW e1)<|q r.1 r.2.1 r.2.2 h
theorem TC(h:(aX (qO e) k).H)(q:∀f l w p,(k (f,l,w,p)).H->P (.Call f l w p)):P e:=aK (bX h) λr e1 h=>af (vG e1)<|q r.1 r.2.1 r.2.2.1 r.2.2.2 h
theorem TF(h:(aX (mU e) k).H)(q:∀o x p,(k (o,x,p)).H->P (.Attribute o x p)):P e:=aK (bX h) λr e1 h=>af (mV e1)<|q r.1 r.2.1 r.2.2 h
theorem Zi(h:(aX (Ik e) k).H)(q:∀a b c d,(k (a,b,c,d)).H->P (.ListComp a b c d)):P e:=aK (bX h) λr e1 h=>af (F8 e1)<|q r.1 r.2.1 r.2.2.1 r.2.2.2 h
theorem Zj(h:(aX (D8 e) k).H)(q:∀a b,(k (a,b)).H->P (.List a b)):P e:=aK (bX h) λr e1 h=>af (F9 e1)<|q r.1 r.2 h
theorem P5(h:(aX (D9 e) k).H)(q:∀a b c,(k (a,b,c)).H->P (.Constant a b c)):P e:=aK (bX h) λr e1 h=>af (Ga e1)<|q r.1 r.2.1 r.2.2 h
end
theorem BR(h:Tz b c=ah):c= .bool b:=by
 cases c with
 |bool d=>exact congrArg Const.bool (beq_iff_eq.mp h).symm
 |_=>contradiction
theorem KL{P:List α->Prop}{l:List α}{k:α->α->VC}(h:(two l .ff k).H)(q:∀a b,(k a b).H->P [a,b]):P l:=by
 rcases l with _ |⟨a,_ |⟨b,_ |⟨c,l⟩⟩⟩<;>first |exact q _ _ h |exact cq h
theorem Zk{P:List pG->Prop}(h:(aX (TA l) k).H)(q:∀t i,(k (t,i)).H->P [⟨t,i,[],0⟩]):P l:=by
 rcases l with _ |⟨⟨t,i,ifs,n⟩,_ |⟨c,l⟩⟩
 . exact h.elim
 . rcases ifs with _ |⟨f,fs⟩
   . have h:(aX (TA.Zg (t,i)<|n==0) k).H:=h
     cases e:n==0 with
     |true=>rw[e] at h;rwa[af (beq_iff_eq.mp e),q _ _ h]
     |false=>rw[e] at h;exact h.elim
   . exact h.elim
 . rcases ifs with _ |⟨f,fs⟩<;>exact h.elim
def Zl(w:Own)(sV Ah it:Expr)(scope:kE)(fr:Frs)(hp:List AO)(k:AV->List AO->VC):VC:=
 aX (eS sV) λa=>aX (qN Ah) λt=>two t.1 .ff λx y=>aX (eS x) λa2=>aX (eS y) λb=>aX (eS it) λi=>Tw w a.1 a2.1 b.1 i.1 scope fr hp k
def Zm(w:Own)(sV Ah it:Expr)(scope:kE)(hp:List AO)(k:AV->List AO->VC):VC:=
 aX (qO sV) λf=>aX (mU f.1) λm=>aX (eS m.1) λpk=>two f.2.1 .ff λx y=>aX (eS x) λcd=>aX (eS y) λxv=>aX (eS Ah) λx2=>aX (D8 it) λls=>two ls.1 .ff λu v=>
  aX (D9 u) λuc=>aX (D9 v) λvc=>rP (Tz ao uc.1&&(Tz ah vc.1&&f.2.2.1.isEmpty))<|Tx w pk.1 cd.1 xv.1 x2.1 m.2.1 (m.2.2.endLine==f.2.2.2.line) scope hp k
def BS(w:Own)(e:Expr)(fr:Frs)(hp:List AO)(k:AV->List AO->VC):VC:=match Ea e with
 |some lm=>qaK w lm hp k
 |none=>aX (Ik e) λr=>aX (TA r.2.1) λg=>match eS r.1 with
  |some _=>Zl w r.1 g.1 g.2 r.2.2.1 fr hp k
  |none=>Zm w r.1 g.1 g.2 r.2.2.1 hp k
theorem TH{P:Expr->Expr->Expr->Prop}(h:(Zl w sV Ah it scope fr hp k).H)(q:∀a p1 a2 p2 b p3 kk tp i p4,(Tw w a a2 b i scope fr hp k).H->P (.Name a p1) (.Tuple [.Name a2 p2,.Name b p3] kk tp) (.Name i p4)):P sV Ah it:=
 BQ (P:=λe=>P e Ah it) h λa p1 h=>Zh (P:=λe=>P _ e it) h λts kk tp h=>KL (P:=λl=>P _ (.Tuple l kk tp) it) h λx y h=>
  BQ (P:=λx=>P _ (.Tuple [x,y] kk tp) it) h λa2 p2 h=>BQ (P:=λy=>P _ (.Tuple [_,y] kk tp) it) h λb p3 h=>BQ (P:=λit=>P _ _ it) h λi p4 h=>q a p1 a2 p2 b p3 kk tp i p4 h
theorem TJ{P:Expr->Expr->Expr->Prop}(h:(Zm w sV Ah it scope hp k).H)(q:∀pk q1 nm apos cd q2 x q3 cpos x2 q4 z1 q5 z2 q6 q7,(Tx w pk cd x x2 nm (apos.endLine==cpos.line) scope hp k).H->P (.Call (.Attribute (.Name pk q1) nm apos) [.Name cd q2,.Name x q3] [] cpos) (.Name x2 q4) (.List [.Constant (.bool ao) z1 q5,.Constant (.bool ah) z2 q6] q7)):P sV Ah it:=
 TC (P:=λe=>P e Ah it) h λf l ks cp h=>TF (P:=λf=>P (.Call f l ks cp) Ah it) h λm nm ap h=>BQ (P:=λm=>P (.Call (.Attribute m nm ap) l ks cp) Ah it) h λpk q1 h=>KL (P:=λl=>P (.Call _ l ks cp) Ah it) h λx y h=>
  BQ (P:=λx=>P (.Call _ [x,y] ks cp) Ah it) h λcd q2 h=>BQ (P:=λy=>P (.Call _ [_,y] ks cp) Ah it) h λxv q3 h=>BQ (P:=λt=>P (.Call _ _ ks cp) t it) h λx2 q4 h=>Zj (P:=λit=>P (.Call _ _ ks cp) _ it) h λls q7 h=>
  KL (P:=λls=>P (.Call _ _ ks cp) _<|.List ls q7) h λu v h=>P5 (P:=λu=>P (.Call _ _ ks cp) _<|.List [u,v] q7) h λuc z1 q5 h=>P5 (P:=λv=>P (.Call _ _ ks cp) _<|.List [_,v] q7) h λvc z2 q6 h=>by
   erw [nn λzn=>?_,aT (kj h) λh1 h2=>?_,aT (fj h1) λh1 h3=>(aT (fj h3) λh3 h4=>?_),zn,-zn];have e1:=BR h1;have e2:=BR h3;have e3:ks=[]:=vz.mp h4;rwa[!e1,!e2,!e3,q pk q1 nm ap cd q2 xv q3 cp x2 q4 z1 q5 z2 q6 q7 h2]
theorem TK{ns:List bI}(hm:x∈ns):ns[ns.idxOf x]? =ae x:=af (aI<|dX.mpr hm)<|af (dQ _) rfl
theorem N8(r:DB c cC)(hq:c.env.qual=w.q)(Mb:c.cdv= .ref w.cc)(Qz:c.p.cm=w.cm)(g:Agree cC.m cC.o ω)(S:SA c R ω fr hp s)(h:(qaK w lm hp k).H)(hQ:Done c R ω fr k Q):
 a6 (bc c.C) c.A (eval (.Lambda lm.params lm.body lm.scope lm.pos) c.env) Q c.E s:=by
 rwa[nn λzn=>?_,aK (bX h) λcs ecs h=>?_,aK (bX h) λo eo h=>?_,xn (Hh h) λms q' P aH cX h5=>?_,!aH,QE cX λh1 h2 h3 h4=>?_,zn,-zn,-cX,a6.of<|Tr r g S eo h1 (by rwa[af hq,h2]) (by rwa[af Qz,ecs]) (bV w.cc Mb h3) h4 h5 hQ]
theorem N9{tp}(r:DB c cC)(Ut:c.ns=w.ns)(S:SA c R ω fr hp s)(h:(Tw w a a2 b i scope fr hp k).H)(hQ:Done c R ω fr k Q):
 a6 (bc c.C) c.A (eval (.ListComp (.Name a p1) [⟨.Tuple [.Name a2 p2,.Name b p3] kk tp,.Name i p4,[],0⟩] scope pos) c.env) Q c.E s:=by
 erw [nn λzn=>?_,aT (kj h) λh1 hA=>?_,aT (fj h1) λe1 h2=>(aT (fj h2) λh3 h4=>(aK (bX hA) λo eo hB=>(aK (bX hB) λv e2 hC=>(aK (pO hC) λrr e3 hD=>(aK (bX hD) λob eob hE=>?_))))),dh (bX hE) λxs e4 aH h7=>?_,aT aH λh5 h6=>?_,zn,-zn,-aH];obtain rfl:=beq_iff_eq.mp e1;subst e2 e3;have hm:=bk.mp h4;rw[<-Ut] at eo hm;erw [KI r h3 (λz=>rfl) (a6.of ?_) eob e4 h5 h6 λda ad s' ex Vc S'=>hQ _ _ _ _ _ h7 ex Vc S',nn λzn=>?_,aT (id S) λhl aH=>?_,aK aH λvs hv H=>?_,-aH,aK (hv.at eo) λbv hb ib=>?_]
 cases bv with
 |none=>rwa[zn,-zn,ib.elim]
 |some wv=>
  rwa[zn,-zn,aK (gY.mp ib) λad ea aH=>?_,!aH,rl (lH r.sc.kind (r.sc.locals _ hm) H.fr ((At.nk (TK hm) hb).look r.sc.nodup)<|oK ad rfl ea S)<|r.sc.uX _<|bB _ hm]
theorem Oa(r:DB c cC)(hN:w.N=c.p.N)(Qz:c.p.cm=w.cm)(OO:∀x∈w.cn,c.scope.names.lookup x=ae .cell)(g:Agree cC.m cC.o ω)(S:SA c R ω fr hp s)(h:(Tx w pk cd x x2 nm (apos.endLine==cpos.line) scope hp k).H)(hQ:Done c R ω fr k Q):
 a6 (bc c.C) c.A (eval (.ListComp (.Call (.Attribute (.Name pk q1) nm apos) [.Name cd q2,.Name x q3] [] cpos) [⟨.Name x2 q4,.List [.Constant (.bool ao) z1 q5,.Constant (.bool ah) z2 q6] q7,[],0⟩] scope pos) c.env) Q c.E s:=by
 erw [nn λzn=>?_,aT (kj h) λh1 hA=>?_,aT (fj h1) λe1 h2=>(aT (fj h2) λh3 h4=>(aT (fj h4) λh5 h6=>(aT (fj h6) λh7 h8=>(aK (bX hA) λcs ecs hB=>?_)))),zn,-zn];obtain rfl:=beq_iff_eq.mp e1;rw[hN] at hB;exact KJ r g S h3 ⟨OO _<|bk.mp h5,OO _<|bk.mp h7⟩ (by rwa[af Qz,ecs]) h8 hB hQ
theorem Fu(r:DB c cC)(hN:w.N=c.p.N)(hq:c.env.qual=w.q)(Mb:c.cdv= .ref w.cc)(Qz:c.p.cm=w.cm)(Ut:c.ns=w.ns)(OO:∀x∈w.cn,c.scope.names.lookup x=ae .cell)(g:Agree cC.m cC.o ω)(S:SA c R ω fr hp s)(h:(BS w e fr hp k).H)(hQ:Done c R ω fr k Q):
 a6 (bc c.C) c.A (eval e c.env) Q c.E s:=by
 unfold BS at h
 cases el:Ea e with
 |some lm=>
  rw[el] at h;exact af (Gb el)<|N8 r hq Mb Qz g S h hQ
 |none=>
  rw[el] at h;refine Zi (P:=λe=>a6 (bc c.C) c.A (eval e c.env) Q c.E s) h λsV gs scope pos h=>Zk (P:=λgs=>a6 (bc c.C) c.A (eval (.ListComp sV gs scope pos) c.env) Q c.E s) h λAh it h=>?_;dsimp only at h
  cases en:eS sV with
  |some q=>
   rw[en] at h;exact TH (P:=λsV Ah it=>a6 (bc c.C) c.A (eval (.ListComp sV [⟨Ah,it,[],0⟩] scope pos) c.env) Q c.E s) h λa p1 a2 p2 b p3 kk tp i p4 h=>N9 r Ut S h hQ
  |none=>
   rw[en] at h;exact TJ (P:=λsV Ah it=>a6 (bc c.C) c.A (eval (.ListComp sV [⟨Ah,it,[],0⟩] scope pos) c.env) Q c.E s) h λpk q1 nm ap cd q2 x q3 cp x2 q4 z1 q5 z2 q6 q7 h=>Oa r hN Qz OO g S h hQ
noncomputable def qa(i:Nat):Expr:=(((D8<|Vp<|(zy 84).getD 1 default).map (·.1)).getD []).getD i default
noncomputable def KN:Expr:=qbi<|(OT<|sIf<|(zy 84).getD 3 default).getD 1 default
noncomputable def Fv:List gK:=qbg<|(zy 87).getD 3 default
noncomputable def Fw:Expr:=(((qO<|Vp<|Fv.getD 5 default).map (·.2.1)).getD []).getD 0 default
noncomputable def Ob:Expr:=xIf<|(Vq<|(OT<|sIf<|Fv.getD 8 default).getD 0 default).getD 0 default
noncomputable def P6:IS:=.cons (.asg (.one<|.loc 0)<|.call 1241<|.cons (.fb<|ab "coder")<|.cons (.fb<|ab "packets") .nil)<|.cons (.asg (.one<|.loc 1)<|.lst<|.cons (.oth<|qa 0)<|.cons (.oth<|qa 1)<|.cons (.oth<|qa 2)<|.cons (.oth<|qa 3)<|.cons (.oth<|qa 4) .nil)<|.cons (.forL (.one<|.loc 2) (.loc 1)<|.cons (.ite (.bl ah<|.cons (.cmp .NotEq (.call 1234<|.cons (.loc 2) .nil)<|.cs<|ab "argument")<|.cons (.cmp .NotEq (.call 1241<|.cons (.fb<|ab "coder")<|.cons (.fb<|ab "packets") .nil)<|.loc 0) .nil) (.cons (.ret<|.cb ao) .nil) .nil) .nil)<|.cons (.ite (.bl ah<|.cons (.cmp .NotEq (.meth (.fb<|ab "packets") 16<|.cons (.fb<|ab "coder")<|.cons (.ci 3) .nil)<|.cy [])<|.cons (.cmp .NotEq (.oth KN)<|.lst<|.cons .cn<|.cons .cn .nil) .nil) (.cons (.ret<|.cb ao) .nil) .nil)<|.cons (.ret<|.bl ao<|.cons (.cmp .Is (.item (.loc 0)<|.ci 5)<|.cb ah)<|.cons (.cmp .Eq (.call 1241<|.cons (.fb<|ab "coder")<|.cons (.fb<|ab "packets") .nil)<|.loc 0) .nil) .nil
noncomputable def rj:IS:=.cons (.asg (.one<|.loc 1)<|.lst<|.cons (.blt 8<|.cons (.cut (.loc 0)<|.ci 60) .nil)<|.cons (.ci 0) .nil)<|.cons (.asg (.many [.loc 2,.loc 3])<|.tup<|.cons (.item (.call 1201 .nil)<|.call 1208<|.cons (.loc 1)<|.cons (.ci 5) .nil)<|.cons (.item (.lst<|.cons .cn<|.cons (.bin .Add (.ci 4)<|.call 1208<|.cons (.loc 1)<|.cons (.ci 12) .nil) .nil)<|.call 1208<|.cons (.loc 1)<|.cons (.ci 2) .nil) .nil)<|.cons (.asg (.one<|.fb<|ab "packets")<|.cls 673<|.cons (.call 1222<|.cons (.loc 2) .nil)<|.cons (.cls 1000<|.cons (.ci 64) .nil)<|.cons (.loc 3) .nil)<|.cons (.forR (.one<|.loc 4) (.cons (.bin .Add (.ci 1)<|.call 1208<|.cons (.loc 1)<|.cons (.ci 4) .nil) .nil)<|.cons (.ite (.cmp .Gt (.loc 4)<|.ci 0) (.cons (.sat (.fb<|ab "packets") 25<|.cls 1000<|.cons (.ci 64) .nil)<|.cons (.expr<|.meth (.fb<|ab "packets") 13 .nil)<|.cons (.expr<|.meth (.fb<|ab "packets") 12 .nil) .nil) .nil)<|.cons (.asg (.many [.loc 5,.fb<|ab "octets"])<|.call 1215<|.cons (.loc 1) .nil)<|.cons (.asg (.many [.fb<|ab "is_marked",.fb<|ab "way"])<|.tup<|.cons (.cmp .Eq (.call 1208<|.cons (.loc 1)<|.cons (.ci 2) .nil)<|.ci 1)<|.cons (.call 1208<|.cons (.loc 1)<|.cons (.ci 4) .nil) .nil)<|.cons (.asg (.one<|.loc 6)<|.call 1227<|.cons (.loc 2)<|.cons (.loc 5)<|.cons (.fb<|ab "octets")<|.cons (.fb<|ab "is_marked") .nil)<|.cons (.asg (.many [.fb<|ab "coder",.loc 7])<|.tup<|.cons (.cls 1106<|.cons (.bin .Add (.loc 6)<|.blt 3<|.cons (.lst<|.cons (.call 1208<|.cons (.loc 1)<|.cons (.ci 256) .nil)<|.cons (.ci 77)<|.cons (.ci 0)<|.cons (.ci 255)<|.cons (.ci 3)<|.cons (.ci 9) .nil) .nil) .nil)<|.cons (.call 1260<|.cons (.loc 5)<|.cons (.loc 3) .nil) .nil)<|.cons (.asg (.one<|.loc 8)<|.call 1234<|.cons (.oth Fw) .nil)<|.cons (.ite (.bl ah<|.cons (.cmp .NotEq (.attr (.fb<|ab "packets") 27)<|.loc 7)<|.cons (.cmp .NotEq (.meth (.attr (.fb<|ab "packets") 25) 49 .nil)<|.cut (.fb<|ab "octets")<|.loc 7) .nil) (.cons (.ret<|.cb ao) .nil) .nil)<|.cons (.ite (.cmp .Lt (.loc 7)<|.blt 1<|.cons (.fb<|ab "octets") .nil) (.cons (.ret<|.cmp .Eq (.loc 8)<|.cs<|ab "large") .nil) .nil)<|.cons (.ite (.bl ah<|.cons (.cmp .NotEq (.loc 8)<|.ite (.cmp .Eq (.fb<|ab "way")<|.ci 1) (.oth Ob)<|.fb<|ab "octets")<|.cons (.cmp .NotEq (.attr (.fb<|ab "packets") 30)<|.fb<|ab "is_marked") .nil) (.cons (.ret<|.cb ao) .nil) .nil)<|.cons (.ite (.bl ah<|.cons (.cmp .NotEq (.attr (.fb<|ab "coder") 27)<|.blt 1<|.cons (.loc 6) .nil)<|.cons (.bl ao<|.cons (.fb<|ab "is_marked")<|.cons (.not<|.call 1246<|.cons (.fb<|ab "coder")<|.cons (.fb<|ab "packets") .nil) .nil) .nil) (.cons (.ret<|.cb ao) .nil) .nil) .nil)<|.cons (.ret<|.cb ah) .nil
theorem KO:uh uH.ns uH.gs uH.body=P6:=by kernel_rfl
theorem Oc:uh sO.ns sO.gs sO.body=rj:=by kernel_rfl
noncomputable def Cf(n:Nat)(d:DE)(cn:List bI)(j k:Nat):Own:=⟨n,d.qual++".<locals>.",d.f-1,j,pF cn k,cn,d.ns⟩
theorem wX(j:Nat)(cn xs:List bI)(hd:d∈[uH,sO])(hf:d.f=f)(sc:mr d.scope d.ns d.gs)(OO:mK d.scope.names []=cn)(LM:N6 d cn=ah)(UB:xs.length=args.length)(pM:∀vs:List aG,vs.length=xs.length->∀name kV doc pm an ct,qv (z3 name d.qual d.params d.body d.scope d.dV kV doc pm an (.ref<|f-1) ct) ⟨vs,[]⟩=cg (xs.zip vs))(hS:uh d.ns d.gs d.body=is)(hw:(Fs n d is cn xs args (BS<|Cf n d cn j hp.length) hp post).H):LV (n+1) f m args hp post:=
 LV.Tt cn xs hd hf sc OO LM UB pM hS (λ{c cC e R' ω fr hp' s k Q} e1 e2 e3 e4 e5 r ho g S h q=>Fu (w:=Cf n d cn j hp.length) r (by refine af e1 ?_;rfl) (by show c.qual++_=_;refine af e2 ?_;rfl) (by refine af e3<|dq hf ?_;rfl) (by refine af e1 ?_;rfl) e5 (λx hx=>by
   simp only[N6,bG,a4,beq_iff_eq] at LM
   refine af e4 ?_;exact(LM.2 x hx).1) g S h q) hw
noncomputable def cnR:List bI:=["packets","coder"]
noncomputable def Zn:List bI:=["way","packets","octets","is_marked","coder"]
theorem TL(j:Nat)(hw:(Fs n uH P6 cnR ["coder","packets"] [a,b] (BS<|Cf n uH cnR j hp.length) hp post).H):LV (n+1) 1246 m [a,b] hp post:=
 wX j cnR ["coder","packets"] (.head _) rfl OY.1 (by kernel_rfl) (by rfl) rfl (λvs e=>GX 2 (P:=λvs=>∀name kV doc pm an ct,qv (z3 name uH.qual uH.params uH.body uH.scope uH.dV kV doc pm an (.ref<|1246-1) ct) ⟨vs,[]⟩=cg ((["coder","packets"]:List bI).zip vs)) (λa b name kV doc pm an ct=>by kernel_rfl) vs e) KO hw
theorem TM(j:Nat)(hw:(Fs n sO rj Zn ["script"] [a] (BS<|Cf n sO Zn j hp.length) hp post).H):LV (n+1) 1265 m [a] hp post:=
 wX j Zn ["script"] (.tail _<|.head _) rfl OY.2 (by kernel_rfl) (by rfl) rfl (λvs e=>GX 1 (P:=λvs=>∀name kV doc pm an ct,qv (z3 name sO.qual sO.params sO.body sO.scope sO.dV kV doc pm an (.ref<|1265-1) ct) ⟨vs,[]⟩=cg ((["script"]:List bI).zip vs)) (λa name kV doc pm an ct=>by kernel_rfl) vs e) Oc hw
noncomputable def Zo(n:Nat)(O:Expr->Frs->List AO->(AV->List AO->VC)->VC)(post:AR->List AO->Prop):Pm:=⟨n,λc hp'=>.nd (post (.exc c) hp') .tt,[],ao,O⟩
theorem LV.TN{n f m}{args}(O:Expr->Frs->List AO->(AV->List AO->VC)->VC){hp}{post}{d}{is}(hd:qP f=ae d)(hb0:Pos f args.length d)(hl0:args.length<=d.ns.length)(hS:uh d.ns d.gs d.body=is)
 (hO:∀{c:Fm} {cC:Bs} {e:Expr} {R':List bp} {ω:Om} {fr:Frs} {hp':List AO} {s:aE} {k:AV->List AO->VC} {Q:aG->aE->Prop},c.p=Zo n O post->c.qual=d.qual->c.cdv= .ref (f-1)->c.ns=d.ns->DB c cC->Mh e=ah->Agree cC.m cC.o ω->SA c R' ω fr hp' s->(O e fr hp' k).H->Done c R' ω fr k Q->a6 (bc c.C) c.A (eval e c.env) Q c.E s)
 (hw:(WS (Zo n O post) is (xH args d.ns) hp λfl u hp'=>.nd (post (.ret<|Nx fl) hp') .tt).H):LV (n+1) f m args hp post:=by
 have hb:Binds f args [] d:=hb0.binds rfl;have hl:args.length+([]:List AV).length<=d.ns.length:=hl0;have hw:(WS (Zo n O post) is (xH (args++[]) d.ns) hp λfl u hp'=>.nd (post (.ret<|Nx fl) hp') .tt).H:=by rwa[af (bD _),hw]
 generalize hdv:([]:List AV)=qh at hb hl hw;constructor;intro C A K G F rm ω vs R s Rr hv hm fX H q1 q2;erw [aK (hb G F H hv) λmore Ce pM=>?_,aT (kF hd) λAe aH=>?_,!aH];have sc:=AB d Ae
 have Sp:(d.ns.take<|args.length+qh.length).length=(vs++more).length:=by
  refine af cA<|af aj<|dq hv.length<|dq Ce.length ?_;lia
 erw [jy (ns:=d.ns) (gs:=d.gs) (rest:=d.ns.drop<|args.length+qh.length) G (vP F hd) rm sc pM (by exact af (vm Sp)<|af (dn _ _) rfl) rfl H λL s1 H1 EH G1=>?_,!hS,aK rm.frames λl0 Cq sM=>?_]
 have Af:A3 ω (xH (args++qh) d.ns) (start ((d.ns.take<|args.length+qh.length).zip<|vs++more)<|d.ns.drop<|args.length+qh.length):=by
  have e1:start ((d.ns.take<|args.length+qh.length).zip<|vs++more) (d.ns.drop<|args.length+qh.length)=(vs++more).map ae++(d.ns.drop<|args.length+qh.length).map λu=>aq:=by
   unfold start;refine dq (r6 Sp)<|af uD<|af (r6 Sp) ?_;rfl
  erw [af e1];unfold xH;rwa[af aj,F2.append (Bn<|F2.append hv Ce) r7]
 let c:Fm:=⟨C.push L,A.deeper<|eo d.qual d.scope L d.f (.ref<|d.f-1) [],K,Zo n O post,d.scope,d.ns,d.gs,d.qual,L,d.f,.ref<|d.f-1,[],
  λe s'=>aC (bx (C.push L).prog (C.push L).w) (A.deeper<|eo d.qual d.scope L d.f (.ref<|d.f-1) []) (leaving (eo d.qual d.scope L d.f (.ref<|d.f-1) []) e) (λu lP=>Rr (.error e) lP) (λe' lP=>Rr (.error e') lP) s'⟩
 have r1:DB c ⟨ω,m⟩:=⟨G1,F,EH,sc,(by exact PassesOwn.leaving),λx i e=>(by contradiction)⟩
 have r:Rn c R ⟨ω,m⟩:=⟨G1,F,EH,sc,r1.po,r1.cs,λho ag S h q=>hO rfl rfl rfl rfl r1 ho ag S h q,λx hp' bb a s' h1 ag h3 H'=>
  ph (L:=L) (fz Cq) (λenv he=>by
   rcases aV.mp he with rfl |q
   . exact⟨by refine af (show(eo d.qual d.scope L d.f (.ref<|d.f-1) []).scope.kind=d.scope.kind from rfl)<|af sc.kind ?_;decide,L,.head _,rfl⟩
   . refine aT (sM env q) λx aH=>?_;refine aK aH λL' y z=>?_;clear aH
     exact⟨x,L',.tail _ y,z⟩) rfl H' λlP Mu=>q2 x hp' bb a lP h1.1 ag h3 Mu.pop⟩
 exact ss (c:=c) d.body (R:=R) ⟨r,.refl (by refine af fX ?_;exact hm),fX,_,Af,H1⟩ hw λfl fr' hp' bb f' s' hk n' hf=>by
  obtain⟨jk,vs',-,H'⟩:=n'.S;have q3:=λw hw=>q1 (Nx fl) hp' bb w s' hk.1 n'.g jk hw H'.leave
  cases fl with
  |ret v=>rwa[aK hf λw aH hw=>?_,-hf,!aH,q3 w hw]
  |_=>rwa[!hf,q3 .none<|fK.mpr rfl]
noncomputable def TO(n:Nat)(d:DE):Own:=⟨n,d.qual++".<locals>.",d.f-1,0,[],[],d.ns⟩
def Zp(n:Nat)(d:DE)(is:IS)(fr:Frs)(hp:List AO)(post:AR->List AO->Prop):VC:=WS (Zo n (BS<|TO n d) post) is fr hp λfl z hp'=>.nd (post (.ret<|Nx fl) hp') .tt
theorem Dk.qeN(hd:qP f=ae d)(h:Dk f k r is)(e:args.length=k)(hw:(Zp n d is (args.map ae++aS r aq) hp post).G):LV (n+1) f m args hp post:=by
 refine yW h.ex λd' h1 h2 h3 h4=>?_;rw[hd] at h1;injection h1 with h1;subst h1
 erw [!e,LV.TN (BS<|TO n d) hd h2 (by exact‹a==b+c->b<=a› h3) h4 (λ{c cC e R' ω fr hp' s k Q} e1 e2 e3 e5 r ho g S h q=>Fu (w:=TO n d) r (by rw[e1];rfl) (by show c.qual++_=_;rw[e2];rfl) (by rw[e3, <-(kF hd).2];rfl) (by rw[e1];rfl) e5 (λx hx=>by contradiction) g S h q)];rw[zv rfl h3];exact hw.h
abbrev yV(l:List bZ):List AV:=l.map bZ.en
theorem zO:∀{l:List bZ},(yV l).all qB=ah
 |[]=>rfl
 |s::l=>by
  show(qB (.tup [s.sh,.int s.len])&&(yV l).all qB)=ah;rw[zO];cases s<;>rfl
theorem zP:(yV l).map uw=l.map bZ.sh:=by rw[yV,uD];rfl
def yL:St:=⟨Wn.start,ES.start nN⟩
def kn(P:Pr)(l:List bZ)(b:Bool):List Ev:=tvs P (bP aq) l++zJ P ((bP aq).goes l) b
theorem KP:nN.Ok:=λz z=>⟨by show 31<=1024;exact aa rfl,by show 1024<=2017;exact aa rfl⟩
theorem DF(h:r<=700000):yL.Ok r:=⟨HJ.start,ES.Bp KP,by show 0+r<=800000;exact‹a<=700000->0+a<=800000› h⟩
theorem kzg{X:VC}(a:AR)(h0:List AO)(a':AR)(ha:a'=a)(e:(X.ck js r0 hq).need=J8 a h0 a' (sd X.yD js hq):=by kernel_rfl)(e2:(X.ck js r0 hq).nx= .tt:=by kernel_rfl)(e3:sd X.yD js hq=h0++(sd X.yD js hq).drop h0.length:=by kernel_rfl):(X.ck js r0 hq).G:=kz _ (P:=J8 a h0 a'<|sd X.yD js hq) ⟨ha,_,e3⟩ e e2
theorem Zq(hP:P.Ok)(hT:Txt (bP aq) l)(ht:tx=((bP aq).goes l).w)(hl:l.length<=1000)(hr:(kn P l b).length<=700000):
 LV 15 1227 1 [ir P.lc P.lp P.pb,.ref 0,.bytes tx,.bool b] [.ll<|yV l] (bN (.ret<|.bytes<|ya (yL.run<|kn P l b).x.done.made) [.ll<|yV l]):=by
 have h0:yL.Ok ((kn P l b).length+0):=DF hr
 have h1:yL.Ok ((tvs P (bP aq) l).length+(zJ P ((bP aq).goes l) b).length):=by
  rw[<-aj];exact h0
 have h2:(yL.run<|kn P l b).Ok 0:=St.kZ h0
 have qeO:LV 13 907 6 [.ref 0,.ref 5,.bytes tx,.int (bP aq).pl] (HM (bP aq) P yL++[.ll<|(yV l).map uw]) (bN (.ret<|.int ((bP aq).goes l).pl)<|HM ((bP aq).goes l) P (yL.run<|tvs P (bP aq) l)++[.ll<|(yV l).map uw]):=by
  rw[zP];rwa[((qeF hP hT ht h1).from<|F2.append (F2.refl λz=>eI.rfl)<|.cons zK .nil).weak λr h e=>?_,aT e λaH cX=>?_,-e,!aH,!cX,⟨6,_,aA 6,rfl,qi.obj<|F2.append (F2.refl λz=>eI.rfl)<|.cons (p9 Dx) .nil,(aA _:6<=6),rfl,rfl⟩]
 erw [LV.gc (XZ.qeN (d:=r8 108) (by kernel_rfl) rfl ?_),V,kc _ [1] Yb,kc _ [] (PW hP)<|kc _ [4,3,1,2] (qeH (P:=P) (σ:=yL)) ?_,k1 _ (P:=(yV l).length<=1000/\(yV l).all qB=ah) ⟨by rw[yV,a3];exact hl,zO⟩,kc _ [4,3,1,2,5,6] qeO]
 cases b with
 |true=>
  erw [V,kc _ [4,3,1,2,5] (qeG (r:=0) hP hT.end<|St.kZ h1),kc _ [1,2] (PE (σ:=(yL.run<|tvs P (bP aq) l).run<|((bP aq).goes l).sE P .fin)<|by rw[<-St.pZ];exact h2),kzg (.ret<|.bytes<|ya (yL.run<|kn P l ah).x.done.made) [.ll<|yV l] (.ret<|.bytes<|ya ((yL.run<|tvs P (bP aq) l).run<|((bP aq).goes l).sE P .fin).x.done.made)];rw[<-St.pZ];rfl
 |false=>
  erw [V];have e:tvs P (bP aq) l=kn P l ao:=(bD _).symm;erw [kc _ [1,2] (PE (σ:=yL.run<|tvs P (bP aq) l)<|by rw[e];exact h2),kzg (.ret<|.bytes<|ya (yL.run<|kn P l ao).x.done.made) [.ll<|yV l] (.ret<|.bytes<|ya (yL.run<|tvs P (bP aq) l).x.done.made)];rw[e]
def Zr(e:Expr):Lm:=(Ea e).getD ⟨t9,e,default,default⟩
def vt(i:Nat):Lm:=Zr<|qa i
def nV:List Lm:=[vt 0,vt 1,vt 2,vt 3,vt 4]
def wY:bI:=uH.qual++".<locals>."++"<lambda>"
def KQ(i a b:Nat):List (bI×Nat):=(uM [("packets",a),("coder",b)] (vt i).scope.names []).getD []
section
variable{K:Pk}{P:Pr}{D:Dc}
def Fx(K:Pk)(P:Pr)(D:Dc)(i:Nat):List AO:=eU K P D++[.fb<|ae<|.ref 0,.fb<|ae<|.ref 5,.fn (vt i) wY<|KQ i 6 7]
theorem wZ(hi:i<5)(hr:K.rs=0)(hm:K.pY=ah):LV 13 1234 9 [.ref 8] (Fx K P D i) (bN (.ret<|.str "argument")<|Fx K P D i):=by
 have key:LF 12 8 9 (Fx K P D i) (bN (.exc 100)<|Fx K P D i):=by
  refine QG hi ?_ ?_ ?_ ?_ ?_
  . skip
    rwa[LF.enter (lm:=vt 0) (q:=wY) (cs:=KQ 0 6 7) (e:=tr [] [] (vt 0).body) [] rfl (by kernel_rfl) (by kernel_rfl) rfl<|VC.G.h ?_,kc _ [0,1,2,3,4,5] (PT (K:=K) (P:=P) (D:=D) (sz:=aq) (b:=ah) (λz=>rfl) hr hm)<|kz _ (P:=bN (.exc 100) (Fx K P D 0) (.exc 100)<|Fx K P D 0) ⟨rfl,rfl⟩]
  . skip
    rwa[LF.enter (lm:=vt 1) (q:=wY) (cs:=KQ 1 6 7) (e:=tr [] [] (vt 1).body) [] rfl (by kernel_rfl) (by kernel_rfl) rfl<|VC.G.h ?_,kc _ [0,1,2,3,4,5] (PT (K:=K) (P:=P) (D:=D) (sz:=ae 1) (b:=ao) (λq=>nomatch q) hr hm)<|kz _ (P:=bN (.exc 100) (Fx K P D 1) (.exc 100)<|Fx K P D 1) ⟨rfl,rfl⟩]
  . skip
    rwa[LF.enter (lm:=vt 2) (q:=wY) (cs:=KQ 2 6 7) (e:=tr [] [] (vt 2).body) [] rfl (by kernel_rfl) (by kernel_rfl) rfl<|VC.G.h ?_,kc _ [0,1,2,3,4,5] (YS (K:=K) (P:=P) (D:=D) hr hm)<|kz _ (P:=bN (.exc 100) (Fx K P D 2) (.exc 100)<|Fx K P D 2) ⟨rfl,rfl⟩]
  . skip
    rwa[LF.enter (lm:=vt 3) (q:=wY) (cs:=KQ 3 6 7) (e:=tr [] [] (vt 3).body) [] rfl (by kernel_rfl) (by kernel_rfl) rfl<|VC.G.h ?_,kc _ [0,1,2,3,4,5] (PU (K:=K) (P:=P) (D:=D) (sz:=aq) (b:=ah) (λz=>rfl) hr hm)<|kz _ (P:=bN (.exc 100) (Fx K P D 3) (.exc 100)<|Fx K P D 3) ⟨rfl,rfl⟩]
  . skip
    rwa[LF.enter (lm:=vt 4) (q:=wY) (cs:=KQ 4 6 7) (e:=tr [] [] (vt 4).body) [] rfl (by kernel_rfl) (by kernel_rfl) rfl<|VC.G.h ?_,kc _ [0,1,2,3,4,5] (PU (K:=K) (P:=P) (D:=D) (sz:=ae 2) (b:=ah) (λq=>nomatch q) hr hm)<|kz _ (P:=bN (.exc 100) (Fx K P D 4) (.exc 100)<|Fx K P D 4) ⟨rfl,rfl⟩]
 refine(PZ key λc h e=>.inr<|by cases e.1;rfl).mono λr h e=>?_;rcases e with⟨v,-,e⟩ |⟨-,e⟩ |⟨e1,e⟩
 . cases e.1
 . cases e.1
 . exact⟨e1,e.2⟩
theorem w4(hi:i<5):vt i∈nV/\uH.qual++".<locals>."++"<lambda>"=wY/\(1245,1243)∈DD/\(vt i).params=t9:=by
 refine QG hi ?_ ?_ ?_ ?_ ?_
 . exact(mT (.head _) rfl (.head _)<|by kernel_rfl)
 . exact(mT (.tail _<|.head _) rfl (.head _)<|by kernel_rfl)
 . exact(mT (.tail _<|.tail _<|.head _) rfl (.head _)<|by kernel_rfl)
 . exact(mT (.tail _<|.tail _<|.tail _<|.head _) rfl (.head _)<|by kernel_rfl)
 . exact(mT (.tail _<|.tail _<|.tail _<|.tail _<|.head _) rfl (.head _)<|by kernel_rfl)
theorem qeP{X:VC}(a:AR)(h0:List AO)(a':AR)(ha:a'=a)(e:(X.ck js r0 hq).nx.need=J8 a h0 a' (sd X.yD js hq):=by kernel_rfl)(e2:(X.ck js r0 hq).nx.nx= .tt:=by kernel_rfl)(e3:sd X.yD js hq=h0++(sd X.yD js hq).drop h0.length:=by kernel_rfl):(X.ck js r0 hq).nx.G:=kz _ (P:=J8 a h0 a'<|sd X.yD js hq) ⟨ha,_,e3⟩ e e2
def clO(K:Pk)(P:Pr)(D:Dc)(i:Nat):List AO:=.tA nV wY 1243::AO.mps (i4 [1,2,3,4,5,6] 1) (eU K P D)++[.fb<|ae<|.ref 1,.fb<|ae<|.ref 6,.lst<|rf K D]++
 [.fn (vt 0) wY<|KQ 0 7 8,.fn (vt 1) wY<|KQ 1 7 8,.fn (vt 2) wY<|KQ 2 7 8,.fn (vt 3) wY<|KQ 3 7 8,.fn (vt 4) wY<|KQ 4 7 8,.gone]++aS i (.lst<|rf K D)
theorem TP(hm:K.pY=ah):K=K.end:=by obtain⟨a,b,c,d,e,f,g,i,j,k⟩:=K;subst hm;rfl
theorem TR{K:Pk}(hr:K.rs=0)(hw:K.w.length<64):LV 15 1246 7 [.ref 6,.ref 1] (.tA nV wY 1243::AO.mps (i4 [1,2,3,4,5,6] 1) (eU K.end P D)) (bN (.ret<|.bool ah)<|.tA nV wY 1243::AO.mps (i4 [1,2,3,4,5,6] 1) (eU K.end P D)):=by
 erw [LV.gc<|TL 0<|VC.G.h ?_,V,kc _ [1,2,3,4,5,6] (wR (K:=K.end) (P:=P) (D:=D) hw),k1 _ (w4 (i:=0)<|aN _)<|k1 _ (w4 (i:=1)<|aa rfl)<|k1 _ (w4 (i:=2)<|aa rfl)<|k1 _ (w4 (i:=3)<|aa rfl)<|k1 _ (w4 (i:=4)<|aA _) ?_,V];have hs:(rf K.end D=rf K.end D/\AV.CR (rf K.end D)=ah)/\(rf K.end D).length<=1000000:=⟨⟨rfl,rfl⟩,by show 7<=1000000;exact aa rfl⟩;refine kl _ [.ref 10,.ref 11,.ref 12,.ref 13,.ref 14] (λ(_:Unit) i=>True) (λz i=>[ae<|.ref 9,ae<|.ref 15,aq]) (λz i=>clO K.end P D i) () trivial (λi u x hx z tu=>?_) λu z=>?_
 . match i,hx with
   |0,hx=>
    injection hx with hx;subst hx
    exact kc _ [1,2,3,4,5,6,7,8,10] (wZ (K:=K.end) (P:=P) (D:=D) (i:=0) (aN _) hr rfl)<|kc _ [1,2,3,4,5,6] (wR (K:=K.end) (P:=P) (D:=D) hw)<|k1 _ hs<|tu.at _ () trivial
   |1,hx=>
    injection hx with hx;subst hx
    exact kc _ [1,2,3,4,5,6,7,8,11] (wZ (K:=K.end) (P:=P) (D:=D) (i:=1) (aa rfl) hr rfl)<|kc _ [1,2,3,4,5,6] (wR (K:=K.end) (P:=P) (D:=D) hw)<|k1 _ hs<|tu.at _ () trivial
   |2,hx=>
    injection hx with hx;subst hx
    exact kc _ [1,2,3,4,5,6,7,8,12] (wZ (K:=K.end) (P:=P) (D:=D) (i:=2) (aa rfl) hr rfl)<|kc _ [1,2,3,4,5,6] (wR (K:=K.end) (P:=P) (D:=D) hw)<|k1 _ hs<|tu.at _ () trivial
   |3,hx=>
    injection hx with hx;subst hx
    exact kc _ [1,2,3,4,5,6,7,8,13] (wZ (K:=K.end) (P:=P) (D:=D) (i:=3) (aa rfl) hr rfl)<|kc _ [1,2,3,4,5,6] (wR (K:=K.end) (P:=P) (D:=D) hw)<|k1 _ hs<|tu.at _ () trivial
   |4,hx=>
    injection hx with hx;subst hx
    exact kc _ [1,2,3,4,5,6,7,8,14] (wZ (K:=K.end) (P:=P) (D:=D) (i:=4) (aA _) hr rfl)<|kc _ [1,2,3,4,5,6] (wR (K:=K.end) (P:=P) (D:=D) hw)<|k1 _ hs<|tu.at _ () trivial
   |i+5,hx=>contradiction
 . refine eX ?_;intro V;refine kc _ [1,2,3,4,5,6] (YU (K:=K.end) (P:=P) (D:=D) rfl) ?_
   exact ka _ (P:=([]:List UInt8)=[]) rfl (kc _ [1,2,3,4,5,6] (YT (K:=K.end) (P:=P) (D:=D) (b:=ao) hr rfl)<|kc _ [1,2,3,4,5,6] (YT (K:=K.end) (P:=P) (D:=D) (b:=ah) hr rfl)<|k1 _ (P:=(([.none,.none]:List AV)=[.none,.none]/\AV.CR [.none,.none]=ah)/\(2:Nat)<=1000000) ⟨⟨rfl,rfl⟩,by exact nI rfl⟩<|k1 _ (P:=(decide ((0:Int)<=5)&&decide ((5:Int)<2 ^ 63))=ah) (by rfl)<|kc _ [1,2,3,4,5,6] (wR (K:=K.end) (P:=P) (D:=D) hw)<|k1 _ hs<|qeP (.ret<|.bool ah) (.tA nV wY 1243::AO.mps (i4 [1,2,3,4,5,6] 1) (eU K.end P D)) (.ret<|.bool ah) rfl)
theorem P7(hr:K.rs=0)(hm:K.pY=ah)(hw:K.w.length<64):LV 15 1246 7 [.ref 6,.ref 1] (.tA nV wY 1243::AO.mps (i4 [1,2,3,4,5,6] 1) (eU K P D)) (bN (.ret<|.bool ah)<|.tA nV wY 1243::AO.mps (i4 [1,2,3,4,5,6] 1) (eU K P D)):=by
 exact af (TP hm)<|TR hr hw
end
section
variable{P:Pr}{K:Pk}{l:List bZ}
theorem w5:∀{k node:Nat},(fH s o m node k).length=k
 |0,_=>rfl
 |k+1,node=>by
  show List.length (_::(if o.testBit k=m.testBit k then fH s o m (2*node+iN (o.testBit k)) k else cE .literals s (2*node+iN (o.testBit k)) (ja o k)))=k+1;rw[bQ]
  split
  . rw[w5]
  . rw[iq,gI]
theorem BU(hm:m<31\/m=4294967295):(nQ n m).length<=60:=by
 unfold nQ;refine af aj<|af iq<|af (gI _ _) ?_
 split
 . show 6+0<=60;exact aa rfl
 . rename_i h4
   rcases hm with h |h
   . have h1:=gJ m h
     have h2:4<=m:=by
      rcases ZX m 4 with q |q
      . exact absurd (by rwa[af (h1.2.2 q),q]) h4
      . exact q
     refine af (if_pos h1.1)<|af iq<|af (q8 _ _) ?_;have:=(h1.2.1 h2).2.2.2.2.2.1;exact‹a<=31->6+a<=60› this
   . subst h
     rwa[af (if_neg<|nofun)<|af aj<|af (a3 _)<|af (gI _ _)<|af iq<|af (q8 _ _) ?_,aa rfl]
theorem Fy{st}(h:s.Ok st r0 w):(qk P st w r0 s).length<=70:=by
 cases s with
 |lit o=>
  show(Ag P st w r0 o).length+1<=70;unfold Ag
  split
  . rwa[af iq<|af (gI _ _) ?_,aa rfl]
  . rwa[af w5,aa rfl]
 |mat d n=>
  show(uK P _ n++nQ n (d-1)).length+1+1<=70;have:=BU (n:=n) (m:=d-1) (.inl (by have:=h.1.2.2;have:=h.1.1;lia));rw[aj,uK,bQ,iq,gI];exact‹a<=60->3+1+a+1+1<=70› this
 |fin=>
  show(uK P _ 2++nQ 2 4294967295).length+1+1<=70;have:=BU (n:=2) (m:=4294967295)<|.inr rfl;rw[aj,uK,bQ,iq,gI];exact‹a<=60->3+1+a+1+1<=70› this
theorem FA:∀{l:List bZ} {K:Pk},xh K l->(tvs P K l).length<=70*l.length
 |[],_,_=>cM _
 |s::l,K,h=>by
  rw[BC,aj,bQ];have h1:=Fy (P:=P) h.1.2;have h2:=FA h.2;have h3:(K.sE P s).length<=70:=h1;exact‹a<=70->b<=70*c->a+b<=70*(c+1)› h1 h2
theorem Od(h:xh (bP aq) l)(hl:l.length<=6):(kn P l b).length<=700000:=by
 unfold kn;erw [af aj];have h1:=FA (P:=P) h
 have h2:(zJ P ((bP aq).goes l) b).length<=70:=by
  cases b with
  |true=>exact Fy (s:=.fin) (r0:=((bP aq).goes l).r0) trivial
  |false=>exact cM _
 exact‹(a<=6)^70->b<=70*a->c<=70->b+c<=700000› hl h1 h2
noncomputable def Pk.wm(K:Pk)(mo:Option Nat):Pk:={K with mo:=mo}
theorem FC:(K.wm mo).go s=(K.go s).wm mo:=by cases s<;>rfl
theorem FD:∀{l:List bZ} {K:Pk},(K.wm mo).goes l=(K.goes l).wm mo
 |[],K=>rfl
 |s::l,K=>by
  show((K.wm mo).go s).goes l=_;rw[FC,FD];rfl
theorem FE:∀{l:List bZ} {K:Pk},aP (K.wm mo) l=aP K l
 |[],K=>rfl
 |s::l,K=>by
  rw[aP,aP,FC,FE];rfl
theorem KR:∀{l:List bZ} {K:Pk},tvs P (K.wm mo) l=tvs P K l
 |[],K=>rfl
 |s::l,K=>by
  rw[BC,BC,FC,KR];rfl
theorem KS:∀{l:List bZ} {K:Pk},xh (K.wm mo) l↔xh K l
 |[],K=>fq
 |s::l,K=>by
  rw[PO,PO,FC,KS];rfl
def Cg(P:Pr)(l:List bZ)(b:Bool):List UInt8:=ya (yL.run<|kn P l b).x.done.made
theorem FF:∀{l:List Ev} {σ:St},(σ.run l).e=σ.e.run l
 |[],_=>rfl
 |v::l,σ=>FF (l:=l) (σ:=σ.ev v)
def tp(P:Pr)(l:List bZ)(b:Bool)(tl:List UInt8):fM:=⟨nN,kn P l b,Cg P l b++tl⟩
variable{b:Bool}{tl:List UInt8}{mo:Option Nat}
theorem vu(hr:(kn P l b).length<=700000):(Cg P l b).length=(tp P l b tl).K+5/\(Cg P l b).length<=800005:=by
 have h2:(yL.run<|kn P l b).Ok 0:=St.kZ<|DF hr;obtain⟨-,d2,-⟩:=Wn.EN h2.at_<|aJ (aN _) h2.e.lo;have e:(tp P l b tl).K=(yL.run<|kn P l b).e.k:=by erw [af FF];rfl
 have:=h2.room;unfold Cg ya;rwa[af (a3 _)<|af d2<|af e ?_,⟨rfl,by exact‹a+0<=800000->a+5<=800005› this⟩]
theorem P8(hr:(kn P l b).length<=700000):(tp P l b tl).Ok:=by
 have h2:(yL.run<|kn P l b).Ok 0:=St.kZ<|DF hr;refine lE (Wn.EN h2.at_<|aJ (aN _) h2.e.lo) λd1 d2 d3=>?_;have e1:(tp P l b tl).K=(yL.run<|kn P l b).e.k:=by erw [af FF];rfl
 have e2:(tp P l b tl).V=(yL.run<|kn P l b).e.L:=by erw [af FF];rfl
 refine⟨KP,?_,?_⟩
 . refine af e1 (af e2 ?_)
   exact NB d3 d2 d1
 . show _<=(Cg P l b++tl).length
   rwa[af aj<|af ((vu (tl:=tl) hr).1) ?_,aU _ _]
theorem TU:(bP mo).goes l=((bP aq).goes l).wm mo:=FD (K:=bP aq)
theorem KU:aP (bP mo) l=aP (bP aq) l:=FE (K:=bP aq)
theorem Zs:tvs P (bP mo) l=tvs P (bP aq) l:=KR (K:=bP aq)
theorem Zt:xh (bP mo) l↔xh (bP aq) l:=KS (K:=bP aq)
theorem Zu:zJ P ((bP mo).goes l) b=zJ P ((bP aq).goes l) b:=by erw [af TU];rfl
theorem KV:kn P l b=tvs P (bP mo) l++zJ P ((bP mo).goes l) b:=by refine af Zs<|af Zu ?_;rfl
theorem DG:(bP mo).PR:=⟨rfl,by show 0<12;exact aN _⟩
abbrev dc(P:Pr)(l:List bZ)(b:Bool)(tl:List UInt8):Dc:=⟨tp P l b tl,[]⟩
theorem KW(hr:(kn P l b).length<=700000)(ht:tl.length<=100):(dc P l b tl).Ok (tp P l b tl).evs:=⟨P8 hr,rfl,by
 show(Cg P l b++tl).length<=1000000;have:=(vu (tl:=tl) hr).2
 refine af aj ?_;lia⟩
theorem P9(hP:P.Ok)(hT:Txt (bP mo) l)(hr:(kn P l b).length<=700000)(ht:tl.length<=100):(bP mo).Rd P (dc P l b tl) l b:=⟨hP,hT,[],by
 have h:=KW (tl:=tl) hr ht;rw[show(tp P l b tl).evs=tvs P (bP mo) l++zJ P ((bP mo).goes l) b from KV] at h
 refine af (bD _) ?_;exact h⟩
theorem Zv:(bP mo).dE P (dc P l b tl) l b=⟨tp P l b tl,kn P l b⟩:=by
 erw [af (KV (mo:=mo))]
 cases b with
 |true=>rfl
 |false=>exact congrArg (Dc.mk _) (bD _).symm
theorem qb(hr:(kn P l b).length<=700000):((bP mo).dE P (dc P l b tl) l b).x.place=(Cg P l b).length:=by
 refine af Zv<|af ((vu (tl:=tl) hr).1) ?_;have h:=fM.end_<|P8 (tl:=tl) hr;show((tp P l b tl).rs (tp P l b tl).evs).place=_;rwa[af h,eO _ _]
def sQ(mo:Option Nat)(l:List bZ):Nat:=((bP mo).goes<|BG (bP mo) l).pl
theorem vv:((bP mo).goes l).pl=(aP (bP mo) l).length:=by
 refine af ((sx DG).pl)<|af q9 ?_;rfl
theorem zQ:((bP mo).goes l).w=aP (bP mo) l:=q9
theorem ko(h:uL (bP mo) l):sQ mo l=(aP (bP mo) l).length:=by
 unfold sQ;exact af (sA h)<|af vv rfl
theorem BV(hs:xh (bP mo) l)(h:yI (bP mo) l K'):K'.pl=sQ mo l/\K'.w=(aP (bP mo) l).take (sQ mo l)/\sQ mo l<(aP (bP mo) l).length:=by
 erw [mq h λpre s m aH hf hn e1 e2=>?_,-h,!aH]
 have hg:sQ mo (pre++s::m)=(aP (bP mo) pre).length:=by
  unfold sQ;exact af (tN hf hn)<|af vv rfl
 have hs2:=(nA.mp hs).2.1;have uV:0<s.len:=hs2.2.pos hs2.1;refine(gp (af e1<|af hg<|af vv rfl) ?_ ?_)
 . exact af e2<|af hg<|af fu<|af List.take_left<|af zQ rfl
 . rw[hg,fu,aP,aj,aj,fN];exact‹0<a->b<b+(a+c)› uV
end
def TV:Lm:=Zr Fw
def yM:List Lm:=[TV]
noncomputable def Qa:bI:=sO.qual++".<locals>."++"<lambda>"
noncomputable def Pk.nm(K:Pk)(mo:Option Nat)(b:Bool):Pk:={K with mo:=mo,pY:=b,rs:=0}
theorem Qb:(bP mo).fi l b=((bP mo).fi l b).nm mo b:=by
 have h1:((bP mo).goes l).pY=ao:=sv;have h2:((bP mo).goes l).rs=0:=vq;have h3:((bP mo).goes l).mo=mo:=zL
 cases b with
 |true=>
  show(((bP mo).goes l).nx .fin).end=(((bP mo).goes l).nx .fin).end.nm mo ah;generalize(bP mo).goes l=K at h1 h2 h3 |-;obtain⟨a,b,c,d,e,f,g,i,j,k⟩:=K;erw [!h1,!h2,!h3];rfl
 |false=>
  show(bP mo).goes l=((bP mo).goes l).nm mo ao;generalize(bP mo).goes l=K at h1 h2 h3 |-;obtain⟨a,b,c,d,e,f,g,i,j,k⟩:=K;erw [!h1,!h2,!h3];rfl
def csL(a b c d e:Nat):List (bI×Nat):=(uM [("way",a),("packets",b),("octets",c),("is_marked",d),("coder",e)] TV.scope.names []).getD []
def Qc(way:Nat)(tx:List UInt8)(b:Bool):List AO:=[.fb<|ae<|.int way,.fb<|ae<|.ref 0,.fb<|ae<|.bytes tx,.fb<|ae<|.bool b,.fb<|ae<|.ref 5,.fn TV Qa<|csL 6 7 8 9 10]
section
variable{P:Pr}{D:Dc}{l:List bZ}{b:Bool}{way:Nat}{mo:Option Nat}
def WQ(P:Pr)(D:Dc)(l:List bZ)(b:Bool)(way:Nat)(mo:Option Nat)(ex:AR)(r:AR)(h:List AO):Prop:=
 (uL (bP mo) l/\((way=1/\r= .ret (.ref 12)/\h=eU (((bP mo).fi l b).nm mo b) P ((bP mo).dE P D l b)++Qc way (aP (bP mo) l) b++[.ll<|l.map bZ.sh])\/
  (way≠1/\r= .ret (.bytes<|aP (bP mo) l)/\h=eU (((bP mo).fi l b).nm mo b) P ((bP mo).dE P D l b)++Qc way (aP (bP mo) l) b)))\/
 (∃K' D',h=eU K' P D'++Qc way (aP (bP mo) l) b/\yI (bP mo) l K'/\r=ex)
theorem KX(Tq:way<4)(h:(bP mo).Rd P D l b):LV 17 1234 12 [.ref 11] (eU (bP mo) P D++Qc way (aP (bP mo) l) b) (WQ P D l b way mo<|.ret<|.str "large"):=by
 have key:LF 16 11 12 (eU (bP mo) P D++Qc way (aP (bP mo) l) b) (WQ P D l b way mo<|.exc 138):=by
  erw [LF.enter (lm:=TV) (q:=Qa) (cs:=csL 6 7 8 9 10) (e:=tr [] ["_law_told"] TV.body) ["_law_told"] rfl (by kernel_rfl) (by kernel_rfl) rfl<|VC.G.h ?_,kg _ [0,1,2,3,4,5] (Y7 (K:=bP mo) (P:=P) (D:=D) Tq rfl rfl h) λr hh q=>?_];rcases q with⟨q1,⟨q2,rfl,rfl⟩ |⟨q2,rfl,rfl⟩⟩ |⟨K',D',rfl,q,rfl⟩
  . rw[Qb]
    exact kz _ (P:=WQ P D l b way mo (.exc 138) (.ret<|.ref 12)<|eU (((bP mo).fi l b).nm mo b) P ((bP mo).dE P D l b)++Qc way (aP (bP mo) l) b++[.ll<|l.map bZ.sh])<|.inl ⟨q1,.inl ⟨q2,rfl,rfl⟩⟩
  . rw[Qb]
    exact kz _ (P:=WQ P D l b way mo (.exc 138) (.ret<|.bytes<|aP (bP mo) l)<|eU (((bP mo).fi l b).nm mo b) P ((bP mo).dE P D l b)++Qc way (aP (bP mo) l) b)<|.inl ⟨q1,.inr ⟨q2,rfl,rfl⟩⟩
  . exact kz _ (P:=WQ P D l b way mo (.exc 138) (.exc 138)<|eU K' P D'++Qc way (aP (bP mo) l) b)<|.inr ⟨K',D',rfl,q,rfl⟩
 refine(PZ key λc h e=>?_).mono λr h e=>?_
 . rcases e with⟨-,⟨-,e,-⟩ |⟨-,e,-⟩⟩ |⟨-,-,-,-,e⟩<;>(first |contradiction |(injection e with e;subst e))
   exact .inl rfl
 . rcases e with⟨v,rfl,e⟩ |⟨rfl,e⟩ |⟨e1,e⟩
   . rcases e with e |⟨-,-,-,-,e⟩
     . exact .inl e
     . contradiction
   . rcases e with⟨-,⟨-,e,-⟩ |⟨-,e,-⟩⟩ |⟨K',D',e1,e2,e⟩
     . contradiction
     . contradiction
     . exact .inr ⟨K',D',e1,e2,rfl⟩
   . rcases e with⟨-,⟨-,e,-⟩ |⟨-,e,-⟩⟩ |⟨-,-,-,-,e⟩<;>(first |contradiction |cases e)
end
structure Sc where
 vs:List Value
 n0:Obj
 xs:List Int
def F1(sc:Sc):List AO:=[.tA yM Qa 1262,.tA nV wY 1243,.IL sc.vs sc.n0]
def sN(sc:Sc):List AO:=[.tA yM Qa 1262,.tA nV wY 1243,.IL sc.vs sc.n0]
def TX(sc:Sc)(r:AR)(h:List AO):Prop:=r= .ret (.bool ah)/\h.take 3=sN sc
theorem Oe(h:Cn vs xs):∀{ws:List aG},Vs ω (vs.map .raw) ws->Vs ω (xs.map .int) ws:=by
 induction h with
 |nil=>intro ws h;cases h;exact .nil
 |cons i t _ ih=>
  intro ws h
  cases h with
  |cons p r=>exact .cons (dz.mpr ⟨t,tD.mp p⟩)<|ih r
theorem Hj(h:Cn vs xs):Cn (vs.take n) (xs.take n):=by
 induction h generalizing n with
 |nil=>rw[sH,sH];exact .nil
 |cons i t _ ih=>cases n with |zero=>exact .nil |succ n=>exact .cons i t ih
theorem Zw{n:Nat}{mi:Int}(ey:ys=vs.map .raw)(hv:Cn vs xs)(em:mi=(many:Nat))(hm:0<many)(hx:xs.length<=1000)(hn:n<=100000):LV 2 1208 2 [.ref 0,.int mi] [.lst [.ref 1,.int n],.lst ys] (bN (.ret<|.int (lS xs n%many:Nat))<|Dy xs<|n+1):=by
 rwa[!ey,(gU (xs:=xs) (n:=n) em hm hx hn).from<|.cons eI.rfl<|.cons (show eI (.lst<|vs.map .raw) (.ll<|xs.map .int) from λω a g ⟨ws,h,r⟩=>⟨wQ,ws,Oe hv h,r⟩) .nil]
theorem BW:∀{xs:List aG},AV.mps g (xs.map .raw)=xs.map .raw
 |[]=>rfl
 |x::xs=>congrArg (AV.raw x:: ·) BW
theorem Of{xs:List aG}(e:ys=xs.map .raw):AO.mps g [.lst [.ref 1,.int n],.lst ys]=[.lst [.ref<|g 1,.int n],.lst ys]:=by
 subst e;show[AO.lst [.ref<|g 1,.int n],AO.lst<|AV.mps g<|xs.map .raw]=_;rw[BW]
noncomputable def VC.t0:VC->Nat
 |.tn n _ _ _=>n
 |_=>0
theorem ki.trans(h:ki n0 fr hp fr' hp')(h':ki n0 fr' hp' wF fO):ki n0 fr hp wF fO:=λc R ω s hn S=>by
 rwa[aK (h c R ω s hn S) λda a1 S1=>?_,aK (h' c R da s a1.l2 S1) λip a2 S2=>?_,⟨ip,a1.trans a2<|aA _,S2⟩]
theorem ki.objs(o:F2 eI hp hp'):ki n0 fr hp fr hp':=λc R ω s hn ⟨hl,vs,hv,H⟩=>
 ⟨ω,.refl hn,hl.trans o.length,vs,hv,(H.perm pf |>.oW (F2.append (vn o) F2.dK)).perm pf.symm⟩
theorem Wk.self:∀{fr:Frs},Wk fr fr
 |[]=>trivial
 |none::l=>Wk.self (fr:=l)
 |some a::l=>⟨rfl,Wk.self (fr:=l)⟩
theorem ki.pad:ki n0 fr hp fr (hp++[.gone]):=λc R ω s hn S=>⟨ω.add 0,(Om.gd (ω:=ω)).le hn,(S.into (P:=λg=>g=[]) λl H=>H.emp).adopt (o:=.gone) λg hg=>hg⟩
theorem ki.le(h:ki hp.length fr hp fr' hp')(e:n0<=hp.length):ki n0 fr hp fr' hp':=λc R ω s hn S=>let⟨bb,a,S'⟩:=h c R ω s (jt S.1.symm) S;⟨bb,a.le e,S'⟩
section
variable{σ:Type}{inv:σ->Nat->Prop}{fo:σ->Nat->Frs}{ho:σ->Nat->List AO}{i N:Nat}
structure TS(N:Nat)(inv:σ->Nat->Prop)(fo:σ->Nat->Frs)(ho:σ->Nat->List AO)(i:Nat):Prop where
 go:∀v:VC,v.tJ=JJ inv fo ho i->v.t0=N->∀s fr',inv s i->ki N v.tf v.th fr' (ho s i)->Wk fr' (fo s i)->v.H
theorem TS.mk0:TS N inv fo ho i:=⟨λv hJ hN s fr' h hm hf=>by
 cases v with
 |tn n0 fr hp J=>
  have hN:n0=N:=hN;rwa[!hN,⟨fo s i,ho s i,hm.trans hf.simp,by rw[show J=_ from hJ];exact⟨s,h,rfl,rfl⟩⟩]
 |_=>exact(show(λ(_:Frs) (_:List AO)=>False) (fo s i) (ho s i) from by rw[show(λ(_:Frs) (_:List AO)=>False)=JJ inv fo ho i from hJ];exact⟨s,h,rfl,rfl⟩).elim⟩
theorem krS(v:VC)(N n:Nat)(it:Nat->Int)(inv:σ->Nat->Prop)(fo:σ->Nat->Frs)(ho:σ->Nat->List AO)(s0:σ){vs:List AV}(hr:l5 vs n it)(h0:inv s0 0)(hm:∀fr hp,v.tf=fr->v.th=hp->ki N fr hp (fo s0 0) (ho s0 0))(body:∀i s,i<n->inv s i->(v.rb (JJ inv fo ho<|i+1) (it i) (fo s i)<|ho s i).G)
 (out:∀s,inv s n->(v.lx (fo s n)<|ho s n).G) (ev:v.rv=vs:=by kernel_rfl) (eN:v.th.length=N:=by kernel_rfl) (hv:v.isR=ah:=by kernel_rfl):v.G:=⟨by
 cases v with
 |rg vs fr hp b x=>
  refine n6 (ev▸hr) λa c h1 h2=>?_;have eN:hp.length=N:=eN;refine⟨a,c,n,h1,JJ inv fo ho,⟨fo s0 0,ho s0 0,by rw[eN];exact hm _ _ rfl rfl,s0,h0,rfl,rfl⟩,λi fr hp hi hJ=>?_,λfr hp hJ=>?_⟩
  . refine dh hJ λs h aH cX=>?_;clear hJ;subst aH;subst cX
    rw[<-h2 i hi];exact(body i s hi h).h
  . refine dh hJ λs h aH cX=>?_;clear hJ;subst aH;subst cX
    exact(out s h).h
 |_=>contradiction⟩
noncomputable def unC:AO->AO
 |.fb _=>.fb aq
 |o=>o
noncomputable def DH:List Bool->List AO->List AO
 |true::bs,o::os=>unC o::DH bs os
 |false::bs,o::os=>o::DH bs os
 |_,os=>os
theorem Og:∀{o:AO},eI o (unC o)
 |.fb v=>λω a g ⟨w,_,h⟩=>⟨w,trivial,h⟩
 |.inst _ _=>eI.rfl
 |.lst _=>eI.rfl
 |.ba _=>eI.rfl
 |.tab _ _=>eI.rfl
 |.dct _=>eI.rfl
 |.fn _ _ _=>eI.rfl
 |.tA _ _ _=>eI.rfl
 |.gone=>eI.rfl
 |.ll _=>eI.rfl
 |.own _ _=>eI.rfl
 |.IL _ _=>eI.rfl
theorem w6:∀{bs:List Bool} {hp:List AO},F2 eI hp (DH bs hp)
 |[],_=>F2.refl λz=>eI.rfl
 |true::bs,[]=>.nil
 |false::bs,[]=>.nil
 |true::bs,o::os=>.cons Og w6
 |false::bs,o::os=>.cons eI.rfl w6
theorem Zx(N:Nat)(inv:σ->Nat->Prop)(fo:σ->Nat->Frs)(ho:σ->Nat->List AO)(i:Nat)(v:VC)(s:σ)(h:inv s i)(bs:List Bool)(js:List Nat)(ef:∀k,AV.Pq (i4 js k) (fo s i)=fo s i)(ew:v.tf=mg (fo s i) v.tf:=by kernel_rfl)(e1:(tI js&&J9 0 N js)=ah:=by kernel_rfl)(e3:js.map (λj=>(DH bs v.th)[j]?)=(AO.mps (i4 js (DH bs v.th).length)<|ho s i).map ae:=by kernel_rfl)(hJ:v.tJ=JJ inv fo ho i:=by kernel_rfl)(hN:v.t0=N:=by kernel_rfl):v.G:=⟨TS.mk0.go v hJ hN s _ h (((Wk.of ew).simp.trans<|ki.objs<|w6 (bs:=bs)).trans (by
 have q:=Sel.simp (fr:=fo s i)<|Sel.of (m:=N) e1 e3;rw[ef] at q
 exact q)) Wk.self⟩
end
def pL(sc:Sc):Pm:=pmC 19 Zn 3 (BS<|Cf 19 sO Zn 0 3)<|TX sc
noncomputable def kL(sc:Sc):Fl->Frs->List AO->VC:=λfl z hp'=>.nd (TX sc (.ret<|Nx fl) hp') .tt
def h2(sc:Sc)(n:Nat)(c:Int):List AO:=F1 sc++[.fb aq,.fb aq,.fb aq,.fb aq,.fb aq,.lst<|(sc.vs.map .raw).take 60,.ll<|(sc.xs.take 60).map .int,.lst [.ref 9,.int n],.lst [ir 3 0 2,ir 0 0 0,ir 0 2 1,ir 1 1 0,ir 2 0 4],.lst [.none,.int c]]
noncomputable def f2(P:Pr)(mo:Option Nat):Frs:=[ae<|.ref 2,ae<|.ref 10,ae<|ir P.lc P.lp P.pb,ae<|wO mo,aq,aq,aq,aq,aq]
theorem yN{t:Nat}(h:t<1000):(decide ((0:Int)<=(t:Int))&&decide ((t:Int)<2 ^ 63))=ah:=by
 rw[decide_eq_true (by exact‹a>=0›:(0:Int)<=(t:Int)),decide_eq_true (by lia:(t:Int)<2 ^ 63)];rfl
theorem TY:AV.mps g [.ref 0,.ref 1,.ref 2,wO mo]=[.ref<|g 0,.ref<|g 1,.ref<|g 2,wO mo]:=by cases mo<;>rfl
def hB(sc:Sc)(n:Nat)(c:Int):List AO:=[.tA yM Qa 1262,.tA nV wY 1243,.IL sc.vs sc.n0,.fb aq,.fb<|ae<|.ref 16,.fb aq,.fb aq,.fb aq,.ll<|(sc.vs.map .raw).take 60,.ll<|(sc.xs.take 60).map .int,.lst [.ref 9,.int n],.lst [ir 3 0 2,ir 0 0 0,ir 0 2 1,ir 1 1 0,ir 2 0 4],.lst [.none,.int c]]
noncomputable def hK(K:Pk)(P:Pr)(ms:MS)(p q:Nat):List AO:=[Al P ms,.gone,.gone,.inst 673 [ae<|.ref 13,ae<|.ref p,ae<|YA K.mo,ae<|.int K.pl,ae<|.int K.st,ae<|.ref 17,ae<|.bool K.pY,ae<|.int K.rs],Cj K.r0 K.r1 K.r2 K.r3]
noncomputable def wdO(w:List UInt8)(q:Nat):List AO:=[.inst 1000 [ae<|.int 64,ae<|.int w.length,ae<|.ref q,ae<|.int w.length],.ba w]
def hL(sc:Sc)(n:Nat)(c:Int)(P:Pr)(K:Pk)(ms:MS)(i:Nat):List AO:=match i with
 |0=>hB sc n c++(hK K P ms 20 21++(.gone:: .gone::wdO K.w 21))
 |_+1=>hB sc n c++(hK K P ms 18 19++wdO K.w 19)
def Oh(mo:Option Nat)(s:Nat×Pk×MS)(i:Nat):Prop:=s.1<=4+50*i/\(i=0->s.2.1=bP mo/\s.2.2=nN)
def hE(P:Pr)(mo:Option Nat):List AO:=[Al P nN,.inst 1000 [ae<|.int 64,ae<|.int (0:Nat),ae<|.ref 15,ae<|.int (0:Nat)],.ba [],.inst 673 [ae<|.ref 13,ae<|.ref 14,ae<|YA mo,ae<|.int (0:Nat),ae<|.int (0:Nat),ae<|.ref 17,ae<|.bool ao,ae<|.int (0:Nat)],Cj 1 1 1 1]
def hF(sc:Sc)(c:Int):List AO:=[.tA yM Qa 1262,.tA nV wY 1243,.IL sc.vs sc.n0,.fb aq,.fb<|ae<|.ref 16,.fb aq,.fb aq,.fb aq,.lst<|(sc.vs.map .raw).take 60,.ll<|(sc.xs.take 60).map .int,.lst [.ref 9,.int (4:Nat)],.lst [ir 3 0 2,ir 0 0 0,ir 0 2 1,ir 1 1 0,ir 2 0 4],.lst [.none,.int c]]
theorem BX:∀{vs:List aG},AV.cls (λz=>ao) (vs.map AV.raw)=ah
 |[]=>rfl
 |v::vs=>BX (vs:=vs)
theorem KY{sc:Sc}:AV.cls (λz=>ao) ((sc.vs.map AV.raw).take 60)=ah:=by rw[<-As];exact BX
theorem TZ:F2 eI (hF sc c) (hB sc 4 c):=
 .cons eI.rfl (.cons eI.rfl<|.cons eI.rfl<|.cons eI.rfl<|.cons eI.rfl<|.cons eI.rfl<|.cons eI.rfl<|.cons eI.rfl<|.cons (p9 KY)<|F2.refl λz=>eI.rfl)
theorem Qd(h1:g 2=2)(h2:g 10=10):AV.Pq g (f2 P mo)=f2 P mo:=by
 show[ae<|.ref<|g 2,ae<|.ref<|g 10,ae<|ir P.lc P.lp P.pb,ae<|(wO mo).mp g,aq,aq,aq,aq,aq]=_;rw[h1,h2];cases mo<;>rfl
def Hk:IS:=match cU (cU<|cU rj) with |.cons (.forR _ _ b) _=>b |_=>.bad
def kkL(sc:Sc):Fl->Frs->List AO->VC:=λfl fr hp=>fl.nx (WS (pL sc) (cU<|cU<|cU<|cU rj) fr hp<|kL sc)<|kL sc fl fr hp
def kT(P:Pr)(mo:Option Nat)(sc:Sc)(c:Int)(i:Nat):Fl->Frs->List AO->VC:=wC 18 (JJ (Oh mo) (λz z=>f2 P mo) (λs i=>hL sc s.1 c P (s.2.1.wm mo) s.2.2 i)<|i+1) (kkL sc .next) λv=>kkL sc<|.ret v
noncomputable def fT(P:Pr)(mo:Option Nat)(i:Nat):Frs:=[ae<|.ref 2,ae<|.ref 10,ae<|ir P.lc P.lp P.pb,ae<|wO mo,ae<|.int i,aq,aq,aq,aq]
def hKb(P:Pr)(mo:Option Nat)(X Y:AO):List AO:=hK (bP mo) P nN 20 21++(X::Y::wdO [] 21)
def hR(sc:Sc)(n:Nat)(c:Int)(P:Pr)(mo:Option Nat)(X Y:AO):List AO:=hB sc n c++hKb P mo X Y
def hC(sc:Sc)(n:Nat)(c:Int)(way:Nat)(tx:List UInt8)(b:Bool):List AO:=[.tA yM Qa 1262,.tA nV wY 1243,.IL sc.vs sc.n0,.fb<|ae<|.int way,.fb<|ae<|.ref 16,.fb<|ae<|.bytes tx,.fb<|ae<|.bool b,.fb aq,.ll<|(sc.vs.map .raw).take 60,.ll<|(sc.xs.take 60).map .int,.lst [.ref 9,.int n],.lst [ir 3 0 2,ir 0 0 0,ir 0 2 1,ir 1 1 0,ir 2 0 4],.lst [.none,.int c]]
def hU(sc:Sc)(n:Nat)(c:Int)(P:Pr)(mo:Option Nat)(X Y:AO)(way:Nat)(tx:List UInt8)(b:Bool)(l:List bZ):List AO:=hC sc n c way tx b++hKb P mo X Y++[.ll<|yV l]
noncomputable def fU(P:Pr)(mo:Option Nat)(i:Nat):Frs:=[ae<|.ref 2,ae<|.ref 10,ae<|ir P.lc P.lp P.pb,ae<|wO mo,ae<|.int i,ae<|.ref 22,aq,aq,aq]
noncomputable def FG(t6:Nat):List UInt8:=[bz t6,bz 77,bz 0,bz 255,bz 3,bz 9]
theorem FH:AV.mps g [.ref 0,wO mo]=[.ref<|g 0,wO mo]:=by cases mo<;>rfl
abbrev qn(mo:Option Nat)(l:List bZ)(b:Bool):Pk:=((bP mo).fi l b).nm mo b
theorem vw(h:uL (bP mo) l):(((qn mo l b).pl:Nat):Int)=(sQ mo l:Nat):=by
 rw[ko h, <-vv];cases b<;>rfl
theorem T1:(qn mo l b).w=aP (bP mo) l:=by
 rw[<-zQ];cases b<;>rfl
theorem DJ:∀{l:List bZ},AV.CR (l.map bZ.sh)=ah
 |[]=>rfl
 |s::l=>by
  show(s.sh.eqb&&AV.CR (l.map bZ.sh))=ah;rw[DJ];cases s<;>rfl
theorem KZ:TV∈yM/\sO.qual++".<locals>."++"<lambda>"=Qa/\(1264,1262)∈DD/\TV.params=t9:=⟨.head _,rfl,.tail _<|.head _,by kernel_rfl⟩
theorem FI{K:Pk}(hn:n<=4+50*i+42)(v:VC)(ew:v.tf=mg (f2 P mo) v.tf:=by kernel_rfl)(e3:([0,1,2,3,4,5,6,7,8,9,10,11,12,13,14,15,16,17,20,21]:List Nat).map (λj=>(DH [ao,ao,ao,ah,ao,ah,ah,ah] v.th)[j]?)=(AO.mps (i4 [0,1,2,3,4,5,6,7,8,9,10,11,12,13,14,15,16,17,20,21] (DH [ao,ao,ao,ah,ao,ah,ah,ah] v.th).length)<|hL sc (n+1) c P (K.wm mo) ms<|i+1).map ae:=by kernel_rfl)(hJ:v.tJ=JJ (Oh mo) (λz z=>f2 P mo) (λs i=>hL sc s.1 c P (s.2.1.wm mo) s.2.2 i) (i+1):=by kernel_rfl)(hN:v.t0=18:=by kernel_rfl):v.G:=
 Zx 18 (Oh mo) (λz z=>f2 P mo) (λs i=>hL sc s.1 c P (s.2.1.wm mo) s.2.2 i) (i+1) v (n+1,K,ms) ⟨by show n+1<=_;exact‹a<=4+50*b+42->a+1<=4+50*(b+1)› hn,λh=>by lia⟩ [ao,ao,ao,ah,ao,ah,ah,ah] [0,1,2,3,4,5,6,7,8,9,10,11,12,13,14,15,16,17,20,21] (λk=>Qd rfl rfl) ew (by decide) e3 hJ hN
theorem kby(v:VC){t6:Nat}(h6:t6<256)(r:v.nx.nx.nx.nx.nx.nx.G)(e0:v.need=((0:Int)<=(t6:Nat)/\((t6:Nat):Int)<256):=by kernel_rfl)
 (e1:(v.nx.need,v.nx.nx.need,v.nx.nx.nx.need,v.nx.nx.nx.nx.need,v.nx.nx.nx.nx.nx.need)=((0:Int)<=77/\(77:Int)<256,(0:Int)<=0/\(0:Int)<256,(0:Int)<=255/\(255:Int)<256,(0:Int)<=3/\(3:Int)<256,(0:Int)<=9/\(9:Int)<256):=by kernel_rfl):v.G:=by
 rwa[aT (cW e1) λe1 e2=>?_,aT (cW e2) λe2 e3=>?_,aT (cW e3) λe3 e4=>?_,aT (cW e4) λe4 e5=>?_,k1 _ (by exact⟨‹a>=0›,‹a<256->256>a› h6⟩) (k1 _ (by decide) (k1 _ (by decide) (k1 _ (by decide) (k1 _ (by decide) (k1 _ (by decide) r e5) e4) e3) e2) e1) e0]
set_option maxHeartbeats 4000000 in
theorem Zy{sc:Sc}(hl:(sc.xs.take 60).length<=1000){P:Pr}(hP:P.Ok){mo:Option Nat}{c:Int}{n i i':Nat}{X Y:AO}{way:Nat}{l:List bZ}(hn:n<=4+50*i+42/\i<=3)(hT:Tp (bP mo) l i')(Lr:i'<=6)(hw:way<4)(b:Bool):
 (WS (pL sc) (cU<|cU<|cU Hk) (fU P mo i) (hU sc n c P mo X Y way (aP (bP mo) l) b l)<|kT P mo sc c i).G:=by
 have hz:(aP (bP mo) l).length<=36:=by have:=hT.n;exact‹(a<=6)^6->b<=6*a->b<=36› Lr this
 have Ma:l.length<=6:=by rw[hT.i];exact Lr
 have hS0:xh (bP aq) l:=Zt.mp hT.s;have hT0:Txt (bP aq) l:=⟨DG,hS0,by rw[<-KU (mo:=mo)];show 0+_<57;exact‹a<=36->0+a<57› hz⟩;have hTm:Txt (bP mo) l:=⟨DG,hT.s,by show 0+_<57;exact‹a<=36->0+a<57› hz⟩;have hr:(kn P l b).length<=700000:=Od hS0 Ma;have htx:aP (bP mo) l=((bP aq).goes l).w:=by rw[zQ,KU]
 have Ve:=(vu (P:=P) (l:=l) (b:=b) (tl:=[]) hr).2;have c27:=Zq (P:=P) (l:=l) (b:=b) hP hT0 htx (by exact‹a<=6->a<=1000› Ma) hr;have Mc:=T1 (mo:=mo) (l:=l) (b:=b)
 cases b with
 |true=>
  erw [kc _ [22] c27,kc _ [10,9] (gU (xs:=sc.xs.take 60) (n:=n) (many:=256) rfl (by decide) hl<|by exact‹a<=4+50*b+42->(b<=3)^50->a<=100000› hn.1 hn.2)];have Zz:=bA (lS (sc.xs.take 60) n) (by decide:256>0);generalize lS (sc.xs.take 60) n%256=t6 at Zz |-;erw [kby _ Zz,k1 _ (P:=(Cg P l ah).length+6<=1000000) (by exact‹a<=800005->a+6<=1000000› Ve),kc _ [24] (PG (T:=tp P l ah<|FG t6)<|KW hr<|by show 6<=100;decide),kC _ [22] (PX (mo:=mo) hT.s) ?_ (ha:=by rw[FH];kernel_rfl),k1 _ KZ,kg _ [16,13,20,21,17,24,3,4,5,6,7,25] (KX (P:=P) (D:=dc P l ah<|FG t6) (b:=ah) hw<|P9 hP hTm hr<|by show 6<=100;decide) λr h q=>?_];rcases q with⟨q1,⟨q2,rfl,rfl⟩ |⟨q2,rfl,rfl⟩⟩ |⟨K',D',rfl,q,rfl⟩
  . refine ka _ (vw (b:=ah) q1) ?_
    rwa[kc _ [20,21] (Dt (w:=(qn mo l ah).w)<|by rw[Mc];exact‹a<=36->a<64› hz),k1 _ (P:=(0:Int)<=(sQ mo l:Nat)/\(aP (bP mo) l).length<=1000000) ⟨by exact‹a>=0›,by exact‹a<=36->a<=1000000› hz⟩,ka _ (P:=(qn mo l ah).w=(aP (bP mo) l).take (((sQ mo l:Nat):Int).toNat)) (by rw[Mc,ko q1];exact(dP ..).symm),k1 _ (P:=(aP (bP mo) l).length<=1000000) (by exact‹a<=36->a<=1000000› hz),kb _ (P:=((sQ mo l:Nat):Int)<((aP (bP mo) l).length:Nat)) (by rw[ko q1];exact bO.mpr<|‹a>=a›),ka _ (P:=((way:Nat):Int)=1) (by exact‹a=1->a&&1› q2),k1 _ (P:=(yV l).length<=1000/\(yV l).all qB=ah) ⟨by rw[a3];exact‹a<=6->a<=1000› Ma,zO⟩,k1 _ (P:=(l.map bZ.sh=(yV l).map uw/\AV.CR (l.map bZ.sh)=ah)/\(l.map bZ.sh).length<=1000000) ⟨⟨zP.symm,DJ⟩,by rw[a3];exact‹a<=6->a<=1000000› Ma⟩,k1 _ (P:=(Cg P l ah).length<=1000000) (by exact‹a<=800005->a<=1000000› Ve),ka _ (P:=((((bP mo).dE P (dc P l ah<|FG t6) l ah).x.place:Nat):Int)=((Cg P l ah).length:Nat)) (by rw[qb hr]),kc _ [1,16,13,20,21,17,24] (P7 (K:=qn mo l ah) (P:=P) (D:=(bP mo).dE P (dc P l ah<|FG t6) l ah) rfl rfl<|by rw[Mc];exact‹a<=36->a<64› hz),FI (sc:=sc) (P:=P) (mo:=mo) (c:=c) (i:=i) (n:=n) (K:=qn mo l ah) (ms:=((bP mo).dE P (dc P l ah<|FG t6) l ah).ms) hn.1 _]
  . refine ka _ (vw (b:=ah) q1) ?_
    rwa[kc _ [20,21] (Dt (w:=(qn mo l ah).w)<|by rw[Mc];exact‹a<=36->a<64› hz),k1 _ (P:=(0:Int)<=(sQ mo l:Nat)/\(aP (bP mo) l).length<=1000000) ⟨by exact‹a>=0›,by exact‹a<=36->a<=1000000› hz⟩,ka _ (P:=(qn mo l ah).w=(aP (bP mo) l).take (((sQ mo l:Nat):Int).toNat)) (by rw[Mc,ko q1];exact(dP ..).symm),k1 _ (P:=(aP (bP mo) l).length<=1000000) (by exact‹a<=36->a<=1000000› hz),kb _ (P:=((sQ mo l:Nat):Int)<((aP (bP mo) l).length:Nat)) (by rw[ko q1];exact bO.mpr<|‹a>=a›),kb _ (P:=((way:Nat):Int)=1) (by lia),ka _ (P:=aP (bP mo) l=aP (bP mo) l) rfl,k1 _ (P:=(Cg P l ah).length<=1000000) (by exact‹a<=800005->a<=1000000› Ve),ka _ (P:=((((bP mo).dE P (dc P l ah<|FG t6) l ah).x.place:Nat):Int)=((Cg P l ah).length:Nat)) (by rw[qb hr]),kc _ [1,16,13,20,21,17,24] (P7 (K:=qn mo l ah) (P:=P) (D:=(bP mo).dE P (dc P l ah<|FG t6) l ah) rfl rfl<|by rw[Mc];exact‹a<=36->a<64› hz),FI (sc:=sc) (P:=P) (mo:=mo) (c:=c) (i:=i) (n:=n) (K:=qn mo l ah) (ms:=((bP mo).dE P (dc P l ah<|FG t6) l ah).ms) hn.1 _]
  . refine lE (BV hT.s q) λg1 g2 g3=>?_
    rwa[ka _ (P:=((K'.pl:Nat):Int)=(sQ mo l:Nat)) (by rw[g1]),kc _ [20,21] (Dt (w:=K'.w)<|by rw[g2,cA];lia),k1 _ (P:=(0:Int)<=(sQ mo l:Nat)/\(aP (bP mo) l).length<=1000000) ⟨by exact‹a>=0›,by exact‹a<=36->a<=1000000› hz⟩,ka _ (P:=K'.w=(aP (bP mo) l).take (((sQ mo l:Nat):Int).toNat)) (by rw[g2];rfl),k1 _ (P:=(aP (bP mo) l).length<=1000000) (by exact‹a<=36->a<=1000000› hz),ka _ (P:=((sQ mo l:Nat):Int)<((aP (bP mo) l).length:Nat)) (by exact aF.mpr<|g3),kz _ (P:=AR.ret (.bool ah)= .ret (.bool ah)/\sN sc=sN sc) ⟨rfl,rfl⟩]
 |false=>
  erw [kc _ [22] c27,kc _ [10,9] (gU (xs:=sc.xs.take 60) (n:=n) (many:=256) rfl (by decide) hl<|by exact‹a<=4+50*b+42->(b<=3)^50->a<=100000› hn.1 hn.2)];have Zz:=bA (lS (sc.xs.take 60) n) (by decide:256>0);generalize lS (sc.xs.take 60) n%256=t6 at Zz |-;erw [kby _ Zz,k1 _ (P:=(Cg P l ao).length+6<=1000000) (by exact‹a<=800005->a+6<=1000000› Ve),kc _ [24] (PG (T:=tp P l ao<|FG t6)<|KW hr<|by show 6<=100;decide),kC _ [22] (PX (mo:=mo) hT.s) ?_ (ha:=by rw[FH];kernel_rfl),k1 _ KZ,kg _ [16,13,20,21,17,24,3,4,5,6,7,25] (KX (P:=P) (D:=dc P l ao<|FG t6) (b:=ao) hw<|P9 hP hTm hr<|by show 6<=100;decide) λr h q=>?_];rcases q with⟨q1,⟨q2,rfl,rfl⟩ |⟨q2,rfl,rfl⟩⟩ |⟨K',D',rfl,q,rfl⟩
  . refine ka _ (vw (b:=ao) q1) ?_
    rwa[kc _ [20,21] (Dt (w:=(qn mo l ao).w)<|by rw[Mc];exact‹a<=36->a<64› hz),k1 _ (P:=(0:Int)<=(sQ mo l:Nat)/\(aP (bP mo) l).length<=1000000) ⟨by exact‹a>=0›,by exact‹a<=36->a<=1000000› hz⟩,ka _ (P:=(qn mo l ao).w=(aP (bP mo) l).take (((sQ mo l:Nat):Int).toNat)) (by rw[Mc,ko q1];exact(dP ..).symm),k1 _ (P:=(aP (bP mo) l).length<=1000000) (by exact‹a<=36->a<=1000000› hz),kb _ (P:=((sQ mo l:Nat):Int)<((aP (bP mo) l).length:Nat)) (by rw[ko q1];exact bO.mpr<|‹a>=a›),ka _ (P:=((way:Nat):Int)=1) (by exact‹a=1->a&&1› q2),k1 _ (P:=(yV l).length<=1000/\(yV l).all qB=ah) ⟨by rw[a3];exact‹a<=6->a<=1000› Ma,zO⟩,k1 _ (P:=(l.map bZ.sh=(yV l).map uw/\AV.CR (l.map bZ.sh)=ah)/\(l.map bZ.sh).length<=1000000) ⟨⟨zP.symm,DJ⟩,by rw[a3];exact‹a<=6->a<=1000000› Ma⟩,k1 _ (P:=(Cg P l ao).length<=1000000) (by exact‹a<=800005->a<=1000000› Ve),ka _ (P:=((((bP mo).dE P (dc P l ao<|FG t6) l ao).x.place:Nat):Int)=((Cg P l ao).length:Nat)) (by rw[qb hr]),FI (sc:=sc) (P:=P) (mo:=mo) (c:=c) (i:=i) (n:=n) (K:=qn mo l ao) (ms:=((bP mo).dE P (dc P l ao<|FG t6) l ao).ms) hn.1 _]
  . refine ka _ (vw (b:=ao) q1) ?_
    rwa[kc _ [20,21] (Dt (w:=(qn mo l ao).w)<|by rw[Mc];exact‹a<=36->a<64› hz),k1 _ (P:=(0:Int)<=(sQ mo l:Nat)/\(aP (bP mo) l).length<=1000000) ⟨by exact‹a>=0›,by exact‹a<=36->a<=1000000› hz⟩,ka _ (P:=(qn mo l ao).w=(aP (bP mo) l).take (((sQ mo l:Nat):Int).toNat)) (by rw[Mc,ko q1];exact(dP ..).symm),k1 _ (P:=(aP (bP mo) l).length<=1000000) (by exact‹a<=36->a<=1000000› hz),kb _ (P:=((sQ mo l:Nat):Int)<((aP (bP mo) l).length:Nat)) (by rw[ko q1];exact bO.mpr<|‹a>=a›),kb _ (P:=((way:Nat):Int)=1) (by lia),ka _ (P:=aP (bP mo) l=aP (bP mo) l) rfl,k1 _ (P:=(Cg P l ao).length<=1000000) (by exact‹a<=800005->a<=1000000› Ve),ka _ (P:=((((bP mo).dE P (dc P l ao<|FG t6) l ao).x.place:Nat):Int)=((Cg P l ao).length:Nat)) (by rw[qb hr]),FI (sc:=sc) (P:=P) (mo:=mo) (c:=c) (i:=i) (n:=n) (K:=qn mo l ao) (ms:=((bP mo).dE P (dc P l ao<|FG t6) l ao).ms) hn.1 _]
  . refine lE (BV hT.s q) λg1 g2 g3=>?_
    rwa[ka _ (P:=((K'.pl:Nat):Int)=(sQ mo l:Nat)) (by rw[g1]),kc _ [20,21] (Dt (w:=K'.w)<|by rw[g2,cA];lia),k1 _ (P:=(0:Int)<=(sQ mo l:Nat)/\(aP (bP mo) l).length<=1000000) ⟨by exact‹a>=0›,by exact‹a<=36->a<=1000000› hz⟩,ka _ (P:=K'.w=(aP (bP mo) l).take (((sQ mo l:Nat):Int).toNat)) (by rw[g2];rfl),k1 _ (P:=(aP (bP mo) l).length<=1000000) (by exact‹a<=36->a<=1000000› hz),ka _ (P:=((sQ mo l:Nat):Int)<((aP (bP mo) l).length:Nat)) (by exact aF.mpr<|g3),kz _ (P:=AR.ret (.bool ah)= .ret (.bool ah)/\sN sc=sN sc) ⟨rfl,rfl⟩]
theorem ZA{sc:Sc}(hl:(sc.xs.take 60).length<=1000){P:Pr}(hP:P.Ok){mo:Option Nat}{c:Int}{n i:Nat}{X Y:AO}(hn:n<=4+50*i/\i<=3):(WS (pL sc) (cU Hk) (fT P mo i) (hR sc n c P mo X Y)<|kT P mo sc c i).G:=by
 erw [aT hn λhn hi=>?_,-hn,kg _ [10,9] (Y5 (mo:=mo) (xs:=sc.xs.take 60) (n:=n) hl<|by exact‹a<=4+50*b->(b<=3)^50->a<=50000› hn.1 hn.2) λr h q=>?_,mq q λl i' n' hT Lr hn' aH cX=>?_,-q,!aH,!cX,kc _ [10,9] (gU (xs:=sc.xs.take 60) (n:=n') (many:=2) rfl (by decide) hl<|by exact‹a<=4+50*b->(b<=3)^50->c<=a+40->c<=100000› hn.1 hn.2 hn')];generalize lS (sc.xs.take 60) n'%2=t5;have ht:=bA (lS (sc.xs.take 60)<|n'+1) (by decide:4>0);have d4:=gU (xs:=sc.xs.take 60) (n:=n'+1) (many:=4) rfl (by decide) hl (by exact‹a<=4+50*b->(b<=3)^50->c<=a+40->c+1<=100000› hn.1 hn.2 hn');generalize lS (sc.xs.take 60) (n'+1)%4=t at ht d4;have hm:n'+1+1<=4+50*i+42:=by exact‹a<=4+50*b->c<=a+40->c+1+1<=4+50*b+42› hn.1 hn'
 refine kf _ (P:=((t5:Nat):Int)=1) (λz=>?_) λz=>?_
 . exact kc _ [10,9] d4<|ke _ (WS (pL sc) (cU<|cU<|cU Hk) (fU P mo i) (hU sc (n'+1+1) c P mo X Y t (aP (bP mo) l) ah l)<|kT P mo sc c i)<|Zy hl hP ⟨hm,hi⟩ hT Lr.2 ht ah
 . exact kc _ [10,9] d4<|ke _ (WS (pL sc) (cU<|cU<|cU Hk) (fU P mo i) (hU sc (n'+1+1) c P mo X Y t (aP (bP mo) l) ao l)<|kT P mo sc c i)<|Zy hl hP ⟨hm,hi⟩ hT Lr.2 ht ao
theorem T2:∀j∈[14,15],j<16:=by decide
theorem xO{sc:Sc}(hl:(sc.xs.take 60).length<=1000){P:Pr}(hP:P.Ok){mo:Option Nat}{c:Int}:(WS (pL sc) (cU<|cU rj) (f2 P mo) (h2 sc 3 c)<|kL sc).G:=by
 erw [kc _ [] (PW hP),kc _ [14] Yn,kC _ [16,13,14,15] (qeI (P:=P) (ms:=nN) (mo:=mo)) ?_ (ha:=by rw[TY];kernel_rfl),kc _ [10,9] (gU (xs:=sc.xs.take 60) (n:=3) (many:=4) rfl (by decide) hl<|by decide)];have ht:=bA (lS (sc.xs.take 60) 3) (by decide:4>0);generalize lS (sc.xs.take 60) 3%4=t at ht |-;refine krS _ 18 (1+t) _ (Oh mo) (λy y=>f2 P mo) (λs i=>hL sc s.1 c P (s.2.1.wm mo) s.2.2 i) (4,bP mo,nN) (l5.up (n:=1+t)<|by exact‹a<4->1+a<=1000000› ht) ⟨aA _,λy=>⟨rfl,rfl⟩⟩ (λfr hp e1 e2=>?_) (λi s hi hs=>?_) λs hs=>?_
 . have ew:fr=mg (f2 P mo) fr:=by rw[<-e1];kernel_rfl
   have eh:hp=hF sc c++hE P mo:=by rw[<-e2];kernel_rfl
   erw [(Wk.of ew).simp.trans];rw[eh];refine ki.trans (ki.objs<|F2.append TZ<|F2.refl λy=>eI.rfl)<|ki.pad.trans<|ki.pad.trans ?_;have q:=ki.move (ds:=[14,15]) (hp:=hB sc 4 c++hE P mo++[.gone]++[.gone]) (fr:=f2 P mo) (by decide) (λj hj=>aJ (T2 j hj)<|aa<|show c7 16 (hB sc 4 c++hE P mo++[AO.gone]++[AO.gone]).length=ah by kernel_rfl);rw[Qd rfl rfl] at q;have e3:Ka [14,15] (hB sc 4 c++hE P mo++[.gone]++[.gone])=hL sc 4 c P ((bP mo).wm mo) nN 0:=by kernel_rfl
   rw[e3] at q;exact q.le (aa<|by kernel_rfl)
 . obtain⟨n,K,ms⟩:=s
   obtain⟨h1,h2⟩:=hs;have h1:n<=4+50*i:=h1
   cases i with
   |zero=>
    obtain⟨rfl,rfl⟩:=h2 rfl;exact kb _ (P:=(0:Int)<(0:Nat)) (by decide) (ke _ (WS (pL sc) (cU Hk) (fT P mo 0) (hR sc n c P mo .gone .gone)<|kT P mo sc c 0)<|ZA hl hP ⟨h1,by decide⟩)
   |succ i=>
    rwa[ka _ (P:=(0:Int)<(i+1:Nat)) (by exact‹a+1>0›),kc _ [20] Yn,kc _ [16,13,20,21,17] (qev (K:={K.wm mo with w:=[]}) (P:=P) (ms:=ms)),kc _ [16,13,20,21,17] (qex (K:={K.wm mo with w:=[]}.fg) (P:=P) (ms:=ms) hP),ke _ (WS (pL sc) (cU Hk) (fT P mo<|i+1) (hR sc n c P mo (.inst 1000 [ae<|.int 64,ae<|.int K.w.length,ae<|.ref 19,ae<|.int K.w.length])<|.ba K.w)<|kT P mo sc c<|i+1)<|ZA hl hP ⟨h1,by exact‹a<4->b+1<1+a->b+1<=3› ht hi⟩]
 . rw[show hL sc s.1 c P (s.2.1.wm mo) s.2.2 (1+t)=hL sc s.1 c P (s.2.1.wm mo) s.2.2 (t+1) from by rw[eO]]
   exact kz _ (P:=AR.ret (.bool ah)= .ret (.bool ah)/\sN sc=sN sc) ⟨rfl,rfl⟩
theorem qeQ(hs:sc.vs.length<=63)(hv:Cn sc.vs sc.xs):LV 20 1265 3 [.ref 2] (F1 sc) (TX sc):=by
 have hl:(sc.xs.take 60).length<=1000:=by rw[cA];lia
 erw [TM 0<|VC.G.h ?_,k1 _ (P:=(0:Int)<=60/\(sc.vs.map AV.raw).length<=1000000) ⟨by decide,by rw[a3];exact‹a<=63->a<=1000000› hs⟩,k1 _ (P:=((sc.vs.map AV.raw).take 60).length<=1000000) (by rw[cA,a3];lia),kc _ [] Y6,kC _ [10,9] (Zw (vs:=sc.vs.take 60) (xs:=sc.xs.take 60) (n:=0) (many:=5) (As ..).symm (Hj hv) rfl (by decide) hl<|by decide) ?_ (hs:=by rw[Of (xs:=sc.vs.take 60) (As ..).symm];kernel_rfl)];have ht:=bA (lS (sc.xs.take 60) 0) (by decide:5>0);generalize lS (sc.xs.take 60) 0%5=t at ht |-;erw [k1 _ (yN (t:=t)<|by exact‹a<5->a<1000› ht),QG ht ?_ ?_ ?_ ?_ ?_]
 . skip
   erw [kc _ [10,9] (gU (xs:=sc.xs.take 60) (n:=1) (many:=12) rfl (by decide) hl<|by decide)];generalize lS (sc.xs.take 60) 1%12=t2;erw [kc _ [10,9] (gU (xs:=sc.xs.take 60) (n:=2) (many:=2) rfl (by decide) hl<|by decide)];have h3:=bA (lS (sc.xs.take 60) 2) (by decide:2>0);generalize lS (sc.xs.take 60) 2%2=t3 at h3 |-;erw [k1 _ (yN (t:=t3)<|by exact‹a<2->a<1000› h3),F6 h3 ?_ ?_]
   . exact ke _ (WS (pL sc) (cU<|cU rj) (f2 ⟨3,0,2⟩ aq) (h2 sc 3<|(4:Int)+(t2:Nat))<|kL sc) (xO hl ⟨by decide,by decide⟩)
   . exact ke _ (WS (pL sc) (cU<|cU rj) (f2 ⟨3,0,2⟩<|ae<|4+t2) (h2 sc 3<|(4:Int)+(t2:Nat))<|kL sc) (xO hl ⟨by decide,by decide⟩)
 . skip
   erw [kc _ [10,9] (gU (xs:=sc.xs.take 60) (n:=1) (many:=12) rfl (by decide) hl<|by decide)];generalize lS (sc.xs.take 60) 1%12=t2;erw [kc _ [10,9] (gU (xs:=sc.xs.take 60) (n:=2) (many:=2) rfl (by decide) hl<|by decide)];have h3:=bA (lS (sc.xs.take 60) 2) (by decide:2>0);generalize lS (sc.xs.take 60) 2%2=t3 at h3 |-;erw [k1 _ (yN (t:=t3)<|by exact‹a<2->a<1000› h3),F6 h3 ?_ ?_]
   . exact ke _ (WS (pL sc) (cU<|cU rj) (f2 ⟨0,0,0⟩ aq) (h2 sc 3<|(4:Int)+(t2:Nat))<|kL sc) (xO hl ⟨by decide,by decide⟩)
   . exact ke _ (WS (pL sc) (cU<|cU rj) (f2 ⟨0,0,0⟩<|ae<|4+t2) (h2 sc 3<|(4:Int)+(t2:Nat))<|kL sc) (xO hl ⟨by decide,by decide⟩)
 . skip
   erw [kc _ [10,9] (gU (xs:=sc.xs.take 60) (n:=1) (many:=12) rfl (by decide) hl<|by decide)];generalize lS (sc.xs.take 60) 1%12=t2;erw [kc _ [10,9] (gU (xs:=sc.xs.take 60) (n:=2) (many:=2) rfl (by decide) hl<|by decide)];have h3:=bA (lS (sc.xs.take 60) 2) (by decide:2>0);generalize lS (sc.xs.take 60) 2%2=t3 at h3 |-;erw [k1 _ (yN (t:=t3)<|by exact‹a<2->a<1000› h3),F6 h3 ?_ ?_]
   . exact ke _ (WS (pL sc) (cU<|cU rj) (f2 ⟨0,2,1⟩ aq) (h2 sc 3<|(4:Int)+(t2:Nat))<|kL sc) (xO hl ⟨by decide,by decide⟩)
   . exact ke _ (WS (pL sc) (cU<|cU rj) (f2 ⟨0,2,1⟩<|ae<|4+t2) (h2 sc 3<|(4:Int)+(t2:Nat))<|kL sc) (xO hl ⟨by decide,by decide⟩)
 . skip
   erw [kc _ [10,9] (gU (xs:=sc.xs.take 60) (n:=1) (many:=12) rfl (by decide) hl<|by decide)];generalize lS (sc.xs.take 60) 1%12=t2;erw [kc _ [10,9] (gU (xs:=sc.xs.take 60) (n:=2) (many:=2) rfl (by decide) hl<|by decide)];have h3:=bA (lS (sc.xs.take 60) 2) (by decide:2>0);generalize lS (sc.xs.take 60) 2%2=t3 at h3 |-;erw [k1 _ (yN (t:=t3)<|by exact‹a<2->a<1000› h3),F6 h3 ?_ ?_]
   . exact ke _ (WS (pL sc) (cU<|cU rj) (f2 ⟨1,1,0⟩ aq) (h2 sc 3<|(4:Int)+(t2:Nat))<|kL sc) (xO hl ⟨by decide,by decide⟩)
   . exact ke _ (WS (pL sc) (cU<|cU rj) (f2 ⟨1,1,0⟩<|ae<|4+t2) (h2 sc 3<|(4:Int)+(t2:Nat))<|kL sc) (xO hl ⟨by decide,by decide⟩)
 . skip
   erw [kc _ [10,9] (gU (xs:=sc.xs.take 60) (n:=1) (many:=12) rfl (by decide) hl<|by decide)];generalize lS (sc.xs.take 60) 1%12=t2;erw [kc _ [10,9] (gU (xs:=sc.xs.take 60) (n:=2) (many:=2) rfl (by decide) hl<|by decide)];have h3:=bA (lS (sc.xs.take 60) 2) (by decide:2>0);generalize lS (sc.xs.take 60) 2%2=t3 at h3 |-;erw [k1 _ (yN (t:=t3)<|by exact‹a<2->a<1000› h3),F6 h3 ?_ ?_]
   . exact ke _ (WS (pL sc) (cU<|cU rj) (f2 ⟨2,0,4⟩ aq) (h2 sc 3<|(4:Int)+(t2:Nat))<|kL sc) (xO hl ⟨by decide,by decide⟩)
   . exact ke _ (WS (pL sc) (cU<|cU rj) (f2 ⟨2,0,4⟩<|ae<|4+t2) (h2 sc 3<|(4:Int)+(t2:Nat))<|kL sc) (xO hl ⟨by decide,by decide⟩)
noncomputable def K1:fy:=⟨.none,aq,.freed, #[]⟩
def uW(h:B3):List br->B3
 |[]=>h
 |a::as=>uW {h with objs:=h.objs.setIfInBounds a K1} as
theorem K2(h:B3)(a b:br):qeU {h with objs:=h.objs.setIfInBounds a K1} b=if b=a then aq else h.get? b:=by
 rw[sZ,sZ,Array.getElem?_setIfInBounds];by_cases e:b=a
 . subst e
   rw[if_pos rfl,if_pos rfl]
   split<;>rfl
 . rw[if_neg e,if_neg λq=>e q.symm]
theorem BY:∀{h:B3} {b:br},(uW h as).get? b=if b∈as then aq else h.get? b:=by
 induction as with
 |nil=>
  intro h b;simp[uW]
 |cons a as ih=>
  intro h b;rw[uW,ih,K2];by_cases e1:b∈as
  . rw[if_pos e1,if_pos<|.tail _ e1]
  . rw[if_neg e1]
    by_cases e2:b=a
    . rw[if_pos e2,if_pos<|e2▸ .head _]
    . rw[if_neg e2,if_neg λq=>by rcases aV.mp q with q |q<;>first |exact e2 q |exact e1 q]
theorem zR(H:h.Ns a m)(ha:a∉as):(uW h as).Ns a m:=by
 rwa[Ig H λo es ep e r=>?_,-H,⟨o,es,ep,by rw[BY,if_neg ha];exact e,r⟩]
theorem qC{K:qo}{f:Nat->Bool}{a:br}(h:FT a (K.filter λp=>f p.1)=ae o):FT a K=ae o/\f a=ah:=by
 induction K with
 |nil=>contradiction
 |cons p K ih=>
  obtain⟨b,ob⟩:=p;rw[dN];by_cases hf:f b=ah
  . rw[List.filter_cons_of_pos (by exact hf),dN] at h
    by_cases e:(a==b)=ah
    . rw[e] at h |-
      exact⟨h,by rw[beq_iff_eq.mp e];exact hf⟩
    . rw[vB] at e
      rw[e] at h |-;exact ih h
  . rw[List.filter_cons_of_neg<|by exact hf] at h
    erw [nn λzn=>?_,aT (ih h) λh1 h2=>?_];by_cases e:(a==b)=ah<;>(refine zn ?_;clear zn)
    . rw[beq_iff_eq.mp e] at h2;exact absurd h2 hf
    . rw[vB] at e
      rw[e];exact⟨h1,h2⟩
theorem F4:∀{xs:List WData} {vs:List aG} {as:List br},vD R xs .int=ah->HQ R cl h vs xs as->∃ns,Cn vs ns/\vs.length=xs.length
 |[],vs,as,_,r=>by cases r;exact⟨[],.nil,rfl⟩
 |x::xs,vs,as,hx,r=>by
  erw [Ih (Uo r) λv ws as1 as2 aH cX r1 r2=>?_,!aH,!cX,aT (aQ.mp<|show(WShape.has R x .int&&vD R xs .int)=ah from hx) λh1 h2=>?_,c4 (hasW_int h1) λi aH=>?_,!aH];obtain⟨t,rfl,-⟩:=readsW_int_inv r1;rwa[aK (F4 h2 r2) λns hn hl=>?_,⟨i::ns,.cons i t hn,congrArg (· +1) hl⟩]
theorem Oi(h:xu.toRowW.claim.pre args=ah):∃xs,args=[.list xs]/\vD xu.records xs .int=ah/\xs.length<=63:=by
 erw [aT (pre_splitW h) λh1 h2=>?_,dF (hasAllW_cons h1) λd r aH h3 h4=>?_,!aH];obtain rfl:=hasAllW_nil h4;erw [aK (hasW_list h3) λxs aH h5=>?_,!aH,⟨xs,rfl,h5,?_⟩];change qfo [] (.and (.not<|.lt (.lit<|.int 63)<|.len<|.arg 0)<|.lit<|.bool ah) {args:=[.list xs]}=ah at h2;simp[qfo,WTm.value] at h2;have e:less? (.int 63) (.int (xs.length:Nat))=ae (decide<|(63:Int)<(xs.length:Nat)):=rfl;rw[e] at h2;rcases ZX 63 xs.length with q |q
 . rw[decide_eq_true (by exact‹63<a->a>63› q:(63:Int)<(xs.length:Nat))] at h2
   contradiction
 . exact q
theorem K3(P:cz):(K0 P).all (λp=>match p.2.data with |.seq _ _=>(match p.2.cls with |.type n=>n=="tuple" |_=>ao) |_=>ah)=ah:=by kernel_rfl
theorem Qe(P:cz):((K0 P).lookup 1262,(K0 P).lookup 1243)=(ae<|tV #[],ae<|tV #[]):=by kernel_rfl
theorem ZC(P:cz):T6 (Kw P) eD "law"=ae (ae<|.ref 1265):=by kernel_rfl
theorem ZD:II q0 td (XL q0 []) (λw h=>(K0 w.params).In h) xu.toRowW d0 []:=by
 intro w s₀ s₁ mg mb G Y fa o pm cd doc dV kV ho hd LC hD hmg hg args vals as HE Lu hrd hwl hlo;erw [dh (Oi HE) λxs aH UB fX=>?_,!aH,Ih (Uo hrd) λv vr as1 as2 aH cX r1 r2=>?_,!aH,!cX];cases r2
 erw [qbd (readsW_list_open r1) λl ol its nl ai aH hl hlc hld OG cX=>?_,!aH,!cX,aK (F4 UB OG) λns Ut hvl=>?_];have T:=topRead_of G.T;have Xw:(Kw w.params).In s₁.heap:=λa o e=>Y a o (qC (f:=λa=> !(b0 a 1243||b0 a 1262)) e).1
 have efa:cF fa= .ref 1265:=by
  have h1:=mg_of Xw T.g<|ZC w.params;have h2:mg "law"=ae (.ref fa):=hmg;rw[h1] at h2;exact(eV h2).symm
 obtain rfl:fa=1265:=by cases efa;rfl
 have t1:s₁.heap.get? 1262=ae (tV #[]):=Y _ _ (pr<|Qe w.params).1;have t2:s₁.heap.get? 1243=ae (tV #[]):=Y _ _ (pr<|Qe w.params).2;have n1:l≠1262:=λe=>by rw[e,t1] at hl;(injection hl with hl;subst hl);contradiction
 have n2:l≠1243:=λe=>by rw[e,t2] at hl;(injection hl with hl;subst hl);contradiction
 have OQ:∀b,(uW s₁.heap [1262,1243,l]).get? b=if b∈[1262,1243,l] then aq else s₁.heap.get? b:=λb=>BY
 have nin:∀{b:br},b≠1262->b≠1243->b≠l->b∉[1262,1243,l]:=λ{b} h1 h2 h3 q=>by
  rcases aV.mp q with q |q
  . exact h1 q
  . rcases aV.mp q with q |q
    . exact h2 q
    . rcases aV.mp q with q |q
      . exact h3 q
      . contradiction
 have nd:∀{a:br} {m:bI->Option aG},s₁.heap.Ns a m->a∉[1262,1243,l]:=λ{a m} H=>by
  obtain⟨o,es,ep,e,d,-⟩:=H;refine nin (λq=>?_) (λq=>?_) λq=>?_
  . subst q;rw[t1] at e;(injection e with e;subst e);contradiction
  . subst q;rw[t2] at e;(injection e with e;subst e);contradiction
  . subst q;rw[hl] at e;(injection e with e;subst e);rw[hld] at d;contradiction
 have inn:(Kw w.params).In (uW s₁.heap [1262,1243,l]):=λa o e=>by
  refine aT (qC (f:=λa=> !(b0 a 1243||b0 a 1262)) e) λe1 e2=>?_
  have e2:a≠1243/\a≠1262:=by
   simp only[dC,FN] at e2;exact⟨λq=>by rw[q] at e2;exact absurd e2.1 (by decide),λq=>by rw[q] at e2;exact absurd e2.2<|by decide⟩
  rw[OQ,if_neg<|nin e2.2 e2.1 λq=>?_]
  . exact Xw _ _ e
  . subst q
    have h1:=Xw _ _ e;rw[hl] at h1;injection h1 with h1;subst h1
    have h2:=a4.mp (K3 w.params) _<|gi e1;rw[hld,hlc] at h2;have h2:(("list":String)=="tuple")=ah:=h2;exact absurd h2 (by decide)
 have T':TopRead q0 _ mg mb (uW s₁.heap [1262,1243,l]):=⟨zR T.g<|nd T.g,zR T.b<|nd T.b,(by
  refine aK T.nolimit λmc h1 h2=>?_
  exact⟨mc,zR h1<|nd h1,h2⟩),T.builtins,T.free⟩
 let C:Cx:=⟨pw,w,uW s₁.heap [1262,1243,l],s₁.gens,s₁.drawn,s₁.os,[]⟩;let sc:Sc:=⟨its.toList,ol,ns⟩;let ω:Om:=⟨[1262,1243,l],[]⟩;have GL:Gl C (Kw w.params):=⟨inn,_,_,_,_,T'⟩;have rm:Rm C UX 20:=⟨rfl,by decide,by decide,[],rfl,λz h=>nomatch h⟩
 have H:Sat C (dR ω ω.ρ (F1 sc)++(tups ω.τ++[])) s₁:=by
  refine⟨⟨λa o e=>?_,rfl,rfl,rfl,λz h=>(nomatch h)⟩,[(1262,tV #[]),(1243,tV #[]),(l,ol)],?_,?_⟩
  . have e:(uW s₁.heap [1262,1243,l]).get? a=ae o:=e
    rw[OQ] at e
    split at e
    . contradiction
    . exact e
  . refine⟨[_],_,rfl,⟨rfl, #[],trivial,λm z=>.inl rfl,rfl⟩,[_],_,rfl,⟨rfl, #[],trivial,λm z=>.inl rfl,rfl⟩,[_],[],rfl,⟨⟨hlc,nl,hld⟩,rfl⟩,rfl⟩
  . refine⟨?_,λx hx=>?_,λx hx=>?_⟩
    . show([1262,1243,l]:List br).Nodup
      simp only[cO,aV,LX,or_false,not_or,List.nodup_nil,and_true,not_false_eq_true];exact⟨⟨by decide,λq=>n1 q.symm⟩,λq=>n2 q.symm⟩
    . rcases aV.mp hx with rfl |hx
      . exact⟨_,t1,bU<|by decide⟩
      . rcases aV.mp hx with rfl |hx
        . exact⟨_,t2,bU<|by decide⟩
        . rcases aV.mp hx with rfl |hx
          . exact⟨_,hl,bU<|by rw[hlc];decide⟩
          . contradiction
    . show(uW s₁.heap [1262,1243,l]).get? x.1=aq
      rw[OQ,if_pos];rcases aV.mp hx with rfl |hx
      . exact .head _
      . rcases aV.mp hx with rfl |hx
        . exact .tail _<|.head _
        . rcases aV.mp hx with rfl |hx
          . exact .tail _<|.tail _<|.head _
          . contradiction
 erw [eK ((qeQ (sc:=sc) (by show its.toList.length<=63;exact‹a<=63->b=a->b<=63› fX hvl) Ut).run GL (kf0 w.params) rm (ω:=ω) (R:=[]) (.cons (gY.mpr ⟨l,rfl,rfl⟩) .nil) (by show 3<=3;decide) rfl H (λv hp' bb w' s' hq yU qae hv HS=>?_) λc hp' bb a s' hq z z z=>by cases hq.1),aT hq λe1 e2=>?_,-hq];injection e1 with e1;subst e1
 obtain rfl:=gj.mp hv
 have at3:∀{i:Nat} {o:AO} {a:br},i<3->(sN sc)[i]? =ae o->ω.ρ[i]? =ae a->∃R,Sat C (o.P bb a::R) s':=λ{i o a} hi ho ha=>by
  have e3:hp'[i]? =ae o:=by rw[<-e2,fJ hi] at ho;exact ho
  obtain⟨a',ea,R,p,-⟩:=ni (ω:=bb) qae e3;rw[yU.same i hi,ha] at ea;injection ea with ea;subst ea
  exact⟨_,HS.perm<|p.append_right _⟩
 have tab:∀{i:Nat} {ms:List Lm} {q:bI} {a:br},i<3->(sN sc)[i]? =ae (.tA ms q a)->ω.ρ[i]? =ae a->∃ps,s'.heap.get? a=ae (tV ps):=λ{i ms q a} hi ho ha=>by
  erw [nn λzn=>?_,c4 (at3 hi ho ha) λR H1=>?_];obtain⟨-,H2⟩:=Sat.pure.mp H1;refine c4 (Sat.ex.mp H2) λps H3=>?_;obtain⟨-,H4⟩:=Sat.pure.mp H3;obtain⟨-,H5⟩:=Sat.pure.mp H4;rwa[zn,-zn,⟨ps,H5.get<|by simp⟩]
 erw [nn λzn=>?_,c4 (tab (i:=0) (by decide) rfl rfl) λp1 u1=>?_,c4 (tab (i:=1) (by decide) rfl rfl) λp2 u2=>?_]
 refine zn ?_;clear zn;have u3:s'.heap.get? l=ae ol:=by
  refine c4 (at3 (i:=2) (by decide) rfl rfl) λR H1=>?_;obtain⟨-,H2⟩:=Sat.pure.mp H1;exact H2.get (by rw[hlc];decide)
 have ct:∀{c b:Nat},(c,b)∈[(1245,1243),(1264,1262)]->isCodeTable s₁.heap b:=λ{c b} hb=>by
  obtain⟨o,vs,file,tf,flags,tg,inF,text,tt,k1,k2,k3,k4,-⟩:=(kf0 w.params).QP _ hb _ Xw;exact⟨c,o,vs,k1,k2,k3,k4⟩
 have was:∀b o,s₁.heap.get? b=ae o->UY s₁.heap s'.heap b o:=λb o e=>by
  by_cases h1:b=1262
  . subst h1
    rw[t1] at e;injection e with e;subst e
    exact .inr (.inl ⟨ct<|.tail _<|.head _,rfl, #[],p1,rfl,by rw[u1,HA]⟩)
  . by_cases h2:b=1243
    . subst h2
      rw[t2] at e;injection e with e;subst e
      exact .inr (.inl ⟨ct<|.head _,rfl, #[],p2,rfl,by rw[u2,HA]⟩)
    . by_cases h3:b=l
      . subst h3
        rw[hl] at e;injection e with e;subst e
        exact .inl u3
      . exact .inl (HS.stays b o<|by show(uW s₁.heap [1262,1243,l]).get? b=ae o;rw[OQ,if_neg<|nin h1 h2 h3];exact e)
 refine⟨.inl ⟨_,.bool ah,[],rfl,λcls=>rfl,.bool ah,?_,λz=>⟨.nil,λz h=>nomatch h⟩⟩,⟨was,λb o e=>?_⟩,?_,?_⟩
 . kernel_rfl
 . rcases was b o e with h |⟨-,-,vs,more,-,h⟩ |⟨-,-,⟨o',es,n,h,-⟩,-⟩
   . exact⟨_,h⟩
   . exact⟨_,h⟩
   . exact⟨_,h⟩
 . exact HS.1.os
 . exact .of_eq<|HS.1.gens.trans hg
theorem Hm:xu.toRowW.promised:=⟨[.list [.int 3,.int 1]],by rfl,by rfl⟩
end
end Internal
open PySem PySem.W PyProof.Rows
theorem PySem.Challenge.cw_pq1224_01_holds : PySem.Challenge.rw_pq1224_01.Holds :=
 Internal.VS (Internal.VR (row_said Internal.Ek) Internal.Hm Internal.ZD)
