import PyProof.Rows.All
import Wide.All
import OpenK.AllK
import Wide.FinOn
import PyProof.AttrMissHeap
import KE.KDictOf
import PyProof.ExcAttrAll.Exception
import PySem.Challenge.RW_no0332_01
set_option tactic.hygienic false
set_option maxRecDepth 100000
set_option Elab.async false
set_option maxHeartbeats 4000000
set_option genSizeOf false
set_option genInjectivity false
set_option genCtorIdx false
set_option bootstrap.genMatcherCode false
set_option linter.all false
namespace Mine.Internal
open PySem PySem.W PyProof.Rows PySem.SeqAt PySem.Calls PySem.Builtin.ObjectAttr
open _root_.And renaming intro->qL
open _root_.Array renaming getElem?_eq_some_iff->cL,getElem?_toList->pz,length_toList->qR,toList_append->qT,any_toList->uE
open _root_.BEq renaming comm->C5
open _root_.Bool renaming and_eq_true_iff->aj,or_eq_true_iff->cw,not_eq_true'->fw,eq_iff_iff->gd,and_false->jk,or_eq_false_iff->ka,and_eq_true->nP,and_true->rn,or_false->rA,false_ne_true->si,false_eq_true->su,not_eq_true->uC,noConfusion->uD,false_and->xW,casesOn->A8
open _root_.Classical renaming propDecidable->nM,em->tE
open _root_.False renaming elim->aC
open _root_.ForInStep renaming yield->vK
open _root_.Int renaming ofNat_lt->aP,le_trans->aX,natCast_nonneg->bw,lt_of_lt_of_le->bL,le_of_lt->c9,ofNat_le->c_,add_sub_cancel->dy,toNat_natCast->eE,eq_ofNat_of_zero_le->eF,not_lt->eK,add_le_add_right->gK,lt_add_one_iff->iU,fmod_nonneg_of_pos->ju,max_eq_right->jP,sub_le_sub_right->kj,le_of_lt_add_one->km,natCast_add->kG,add_comm->lh,sub_add_cancel->lL,lt_of_le_of_lt->lO,fmod_lt_of_pos->lX,le_add_of_nonneg_right->lY,add_lt_of_lt_sub_right->lZ,lt_sub_right_of_add_lt->l6,zero_add->oJ,sub_zero->oR,sub_lt_sub_right->qj,add_lt_add_left->qW,not_le->se,ne_of_gt->tB,ofNat_nonneg->uJ,mul_one->u6,min_eq_left->vI,lt_irrefl->yG,add_assoc->yH,lt_trans->A0,le_of_eq->A1,ediv_one->A2,add_zero->A5,le_refl->C6
open _root_.List renaming length_append->ae,length_map->af,append_assoc->ai,append_nil->au,casesOn->ay,mem_singleton->aA,map_append->aH,all_eq_true->aJ,getElem?_eq_some_iff->aL,mem_cons->aN,size_toArray->aR,mem_append_right->aU,getElem?_append_right->aY,getElem?_eq_getElem->bb,mem_append->bf,mem_append_left->bj,mem_map->br,not_mem_nil->bu,nodup_append->bz,length_take_le'->bG,flatten_append->bJ,mem_of_getElem?->bM,length_cons->bP,nodup_cons->bQ,map_map->bR,getElem?_toArray->bV,dropWhile_suffix->bW,length_reverse->cj,getElem?_set_ne->cn,suffix_refl->cu,lookup_cons->cz,map_cons->cD,suffix_append->cG,dropWhile_cons_of_pos->cM,mem_of_mem_take->cU,length_range'->cX,getElem?_map->de,length_eq_zero_iff->di,getElem?_set_self->dD,getElem?_append_left->dG,flatten_cons->dJ,findIdx_cons->dM,length_nil->dR,suffix_cons->dW,range->d3,nodup_nil->d4,map_inj_left->d5,reverse_cons->d6,mem_filter->d_,getElem?_zip_eq_some->ed,range'->ew,take_length_add_append->eR,getD_eq_getElem?_getD->e_,flatten->fB,mem_of_mem_tail->fC,takeWhile_append_dropWhile->fJ,reverse_append->fO,prefix_append->f7,append_eq_nil_iff->f9,mem_iff_getElem?->gn,take_eq_take_min->gp,dropWhile_cons_of_neg->gL,take_length->gZ,length_drop->g0,append_toArray->hJ,map_congr_left->hO,elem_iff->iz,map_take->iA,length_set->iG,nil_suffix->iI,length_range->jo,mem_range->jq,replicate->jr,dropLast_eq_take->jD,set_append_right->jE,take_append_drop->jF,getElem_mem->jQ,any_eq_true->jT,cons_ne_nil->jV,length_tail->jW,append_cons->jX,length_dropLast->ke,map->kg,mem_map_of_mem->kN,length_flatten->kO,map_id'->li,mapM_cons->lM,drop_left->lS,takeWhile_cons_of_neg->lT,takeWhile_cons_of_pos->lU,getLast?_eq_getElem?->mh,all_cons->mY,take_nil->mZ,map_tail->m8,mem_flatten->nK,mem_toArray->nN,isEmpty_iff->nO,range'_succ->nT,flatten_nil->nU,range_succ_eq_map->oH,drop_eq_nil_of_le->oX,take_of_length_le->oY,of_mem_zip->pf,length_replicate->pA,length_singleton->pC,eq_nil_or_concat->pE,concat_eq_append->pF,findIdx_getElem->p_,drop_take->qd,getLast?_concat->qe,dropLast_concat->qf,reverse_reverse->qg,flatten_flatten->qi,length_pos_iff->qV,drop_nil->rt,find?_toArray->sb,getElem?_drop->sk,mem_filterMap->sq,all_map->tA,map_nil->tF,flatMap_cons->tJ,foldr_append->tM,any_toArray->uA,getElem_inj->uB,take_append->uI,lookup->u_,nil_append->vL,all_append->vO,take_left'->vP,take_left->xZ,take->zD,toArray->A3,length->C1
open _root_.List.IsPrefix renaming length_le->zE
open _root_.List.IsSuffix renaming trans->kP
open _root_.List.cons renaming inj->c6
open _root_.Nat renaming le_of_ble_eq_true->aa,le_trans->ac,le_add_right->ak,succ_le_succ->aw,le_refl->ax,add_le_add_right->aB,add_le_add_left->aK,le_of_eq->aW,zero_le->aZ,add_le_add->be,lt_of_le_of_lt->bi,lt_of_lt_of_le->bk,add_assoc->bo,le_succ_of_le->bp,zero_add->bA,add_right_comm->bD,beq->bH,add_comm->bI,le_of_succ_le_succ->bK,ne_of_lt->bT,succ_pos->bU,le_succ->bX,ble->b7,le_of_lt->cf,le_of_succ_le->cg,mul_le_mul_left->ci,succ_add_eq_add_succ->cq,lt_succ_self->cy,le_add_left->cK,mul_le_mul_right->cV,lt_succ_of_le->c8,sub_self->dc,lt_add_of_pos_right->dj,eq_of_beq_eq_true->dP,succ_min_succ->eA,add_sub_cancel_left->eC,lt_trans->eQ,ne_of_gt->fy,le_of_lt_succ->fD,add_sub_cancel'->fL,min_eq_left->gh,not_lt->gJ,max_le->gM,min_le_right->gY,lt_irrefl->iq,eq_zero_or_pos->iQ,le_zero->i8,lt_of_succ_lt_succ->jl,sub_eq_zero_of_le->jC,sub_le->jO,succ_ne_self->jU,succ_mul->lj,succ->nL,lt_or_ge->oM,lt_sub_iff_add_lt'->oP,le_total->oQ,ne_of_beq_eq_false->oV,ble_eq_true_of_le->pD,sub_le_sub_right->p9,mul_add->qh,lt_sub_of_add_lt->qk,add_lt_of_lt_sub->ql,add_lt_add_left->qQ,sub_lt->sf,eq_or_lt_of_le->sx,add_left_comm->tK,succ_ne_zero->uF,succ_lt_succ->uH,one_pos->u7,not_lt_zero->vH,add_zero->A7
open _root_.Nat.succ renaming inj->oS
open _root_.Ne renaming symm->jp
open _root_.Option renaming bind_eq_some_iff->aS,map_eq_some_iff->a_,none->bc,casesOn->dQ,isNone_iff_eq_none->ee,isSome_iff_exists->fH,map->oK,getD->C3
open _root_.Option.some renaming inj->aF
open _root_.Prod.mk renaming inj->cS,injEq->yF
open _root_.PyProof renaming noPylong_small->oI
open _root_.PyProof.Rows renaming subscriptTail->cH,spliced_more->f_,slot_tuple_getitem->iW,Call_Name->i_,spliced_none->jv,tail_any->nX,len_list->pw,slicePart_none->x8,Attribute_any_->x_,Compare_chain->yI,len_tuple->A4
open PySem renaming wpAny_bind->ao,wpAny_pure->aG,Shared->aI,call->aM,wpAny->aO,Env->aV,DictEntry->bh,model->bS,NameKind->bZ,mainGlobals->cv,callEnvC->cW,Builtin->cY,wpAny_newObj_type->df,wpAny_holding->dz,compareOp->dF,binaryOp->dH,wpAny_truthy_bool->dN,PyData->dT,Around->dX,starEach->d7,wpAny_field->eb,codeAny->ek,partValue->eG,wpAny_standAt->eT,Comprehension->eU,attributeBase->eW,recursionLimit->fc,sizeLine->fe,callEnv->fg,foldedSetIterable->fE,wpAny_of_eq->fG,wpAt_of_wpAny->fM,intText?->fS,swapsWith->fU,Scope->fV,standAt->f',wpAny_mono->gb,wpAny_call->gc,getMethod->gj,wpAny_loadPart_at->gy,sysModules->gN,strKind_is->gO,subscripted->gP,pyIter->gT,wpAny_loadPart->gV,holding->g9,bootBuiltins->g_,Params->hY,swappedStores->iB,wpAny_execs_nil->iK,letOwnedTupleGo->iL,backTo->iV,ks_wpAt_execs_cons->iX,keywordEach->ja,Result->jw,rawInt->jY,seqIndex?->jZ,getItem->j6,strLen_append->j7,cLine->ko,wpAny_loadName_local->kq,callWith->ku,getAttrByItsOwn->kH,wpAny_isSubtype_exc->kQ,Program->lr,wpAny_typeOf->lu,cellsFrom->lB,wpAny_Constant_int->l7,wpAny_pyIter_tuple->l8,assignEach->l9,ks_wpAt_MethodCall->l_,wpAny_pyIter_list->mD,setAttr->m7,behindInMarks->nf,wpAny_comprehension_free->ng,noFill_tuple_add->nW,wpAny_call_entry->nY,backToKw->nZ,ks_wpAt_Expr_any->n0,concat_meets->oZ,findBy->o3,operate->o4,getAttr->o5,call_meets->o6,Model->pj,codeAny_of_tree->pk,codeAny_builtin->pn,wpAny_isTrue_Compare1->pG,builtinLookup_eq_fast->pH,ks_codeAny_call_defAt->pI,wpAny_is_other->qm,wpAny_setField->qo,compTurn->qp,importBound->qr,codeAny_call_builtin->qt,ClassData->qM,wpAny_loadName_free->qX,seq_tuple_add->rB,Walks->rE,assignInOrder->rF,swapsWithSole->rG,builtinsNs->sy,typeIs_str->sz,wpAny_rule->sA,typeOf->sD,isInstance->sE,slot_list_getitem->tP,getMethod_builtin->tQ,wpAny_Return_some->tR,leaving->tU,wpAny_mkText->tV,Operator->tW,wpAny_execs_cons->uL,wpAny_askSetting->uM,entryFor_of_tree->uN,checkBuiltinCall->uO,callGetattribute->uP,wpAny_Try_except->uQ,World->va,wpAny_BinOp->vb,clipAt_cast->vc,interactive->vf,unpackItems->vg,wpAt_bind->vM,wpAny_tests_nil->vQ,typeLookup_type->vR,isTrue->x5,wpAny_Compare1->x6,truthy->x7,letTemporaryGo->x9,PlainAttrs->ya,cameBackBy->yb,closureFor->yc,typeLookup->yd,bindArgs->ye,methodCallForm->yg,boundAndCalled->yi,methodCallPos->yJ,wpAny_attempt->yK,noteFrame->zH,stored->A6,OsState->A9,notedBy->A_,relabel->Ba,callerA->Bb,execs->C7,evalEach->C8,assign->EA,WalksT->EB,Const->F1
open PySem.Around renaming frames_deeper->qc
open PySem.AutoSeq1 renaming wpAny_loadPart'->m6
open PySem.BoolOp renaming casesOn->xY
open PySem.Builtin.List renaming listTooLong->m4
open PySem.Builtin.Range renaming rangeSize->i7,small->kM,rangeFitsLong->v5
open PySem.Builtin.Slice renaming sliceAdjust->md,slicePlaces->mf,slicePartIndex->vJ,sliceApplied->xQ
open PySem.Builtin.Str renaming strSliceIndices->da
open PySem.Builtin.Tuple renaming tupleItemsOf->xU
open PySem.Calls renaming evalArgs_plain->gQ,Constant_str->iP,Name_function_global->qn,loadGlobal_builtin->sC
open PySem.Code renaming quiet_builtin->fZ
open PySem.Comprehension renaming casesOn->pB
open PySem.Const.str renaming elim->lQ
open PySem.EntryCells renaming newEntry->Dc
open PySem.Env renaming kindOf->Ey
open PySem.EqBoolInt renaming of_rcne->tC
open PySem.ExceptHandler renaming casesOn->Bj
open PySem.Expr.Attribute renaming elim->d8
open PySem.Expr.BinOp renaming elim->vN
open PySem.Expr.BoolOp renaming elim->nS
open PySem.Expr.Call renaming elim->eu
open PySem.Expr.Compare renaming elim->fA
open PySem.Expr.Constant renaming elim->fb
open PySem.Expr.FormattedValue renaming elim->yE
open PySem.Expr.IfExp renaming elim->pg
open PySem.Expr.JoinedStr renaming elim->Dd
open PySem.Expr.ListComp renaming elim->sv
open PySem.Expr.Name renaming elim->bY
open PySem.Expr.Slice renaming elim->Hv
open PySem.Expr.Subscript renaming elim->qU
open PySem.Expr.Tuple renaming elim->iH
open PySem.Expr.UnaryOp renaming elim->mA
open PySem.F renaming excBase_Exception->fm,args_tuple_add_2->ip,slot_list_getattribute->iy,entry_tuple_add->i6,slot_tuple_add->jm,plainAttrs_list->jt,ks_slot_super_ga->lP,plainAttrs_str->nQ,attr_Exception->oU,slot_str_getitem->sd
open PySem.Heap renaming get?_push_of_some->az,get?_push_size->bC,lt_size->cA,get?_push_at->dK,get?_update_self->ff,size_push->fT,get?_update_ne->hU,get?_update_other->oN
open PySem.Heap.DictOf renaming new->Hu
open PySem.Heap.IsSliceOf renaming new->Ew
open PySem.IsRange renaming new->C2
open PySem.NameKind renaming free->cF,cell->rz
open PySem.Obj renaming mapFields->iw,mapSeq->sj,data_mapFields->sr
open PySem.Operator.Add renaming elim->tH
open PySem.PyData renaming keyHash->cZ,showable->eL,shownAll->iJ,showableAll->sm
open PySem.SeqAt renaming RcNeAt->cN
open PySem.SeqAt.EqAt renaming same->zA,of_refs->AZ
open PySem.Stmt.Assign renaming elim->Hl
open PySem.Stmt.Raise renaming elim->Hx
open PySem.Stmt.Return renaming elim->uG
open PySem.Stmt.While renaming elim->Hw
open PySem.Str renaming ofString->ah,join->lN,cps_append->xX,empty->Hk
open PySem.Txt renaming contains->tD
open PySem.UnaryOp.Not renaming elim->nR
open PySem.UnaryOp.USub renaming elim->F0
open PySem.Value renaming ref->dC,isStrOf->dZ,int->gi,none->jR,builtin->yD,type->Ez,str->Hj
open PySem.W renaming dictOf->dh,ks_superIn->eM,findIn->gq,Looks->gS,ks_superObj->gU,fnIn->gX,methodObj->hG,callWith_of->i9,looks_findIn->lx,instObj->mC,looks_clsIn->mE,typeIn->m_,handedIn->nV,looks_mroIn->qq,methodCall_KW->rC,clsIn->tN,plainGet->tO,putName_dict->tT,hasDictIn->uK,plainGet_of->ve,keepIn->x4,codeRec_of->yf,check_slot->yh,plainOver->zF,set_plain->zG
open PySem.W.Looks renaming ld->C4
open PySem.Walks renaming tuple->u9,list->Ex
open PySem.callAny renaming viaDunder->tG
theorem cps{G:Prop}(h:∀P:Prop,(G->P)->P):G:=h G id
noncomputable abbrev eo:Str:=ah "self"
noncomputable abbrev eN:Str:=ah "text"
noncomputable def dq:Nat->Addr
 |0=>150|1=>318|_=>479
noncomputable def R4:Value->Bool
 | .none=>true
 |_=>false
noncomputable def KG(fd:FuncData):Bool:=decide (fd.globals=cv)&&(decide (fd.builtins=sy)&&(decide (fd.scope.kind= .function)&&(!fd.scope.isCoroutine&&(!fd.scope.isGenerator&&
 (fd.params.posonlyargs.isEmpty&&(fd.params.kwonlyargs.isEmpty&&(fd.params.vararg.isNone&&(fd.params.kwarg.isNone&&R4 fd.defaults))))))))
noncomputable def jb:FuncBody->Option (List Stmt)
 | .stmts b=>some b
 |_=>none
noncomputable def fdOf:Data->Option FuncData
 | .func fd=>some fd
 |_=>none
theorem F2(h:fdOf d=some fd):d= .func fd:=by cases d<;>cases h;rfl
noncomputable def n4(K:Frag)(f:Addr):Option FuncData:=(K.lookup f).bind λo=>(fdOf o.data).bind λfd=>if (KG fd&&codeIn K fd.code fd.qualname)=true then some fd else none
noncomputable def v7:Nat->Addr
 |0=>119|1=>273|_=>415
structure KN(K:Frag):Prop where
 new:[0,1,2].all (λc=>makesIn K (dq c)&&(gq K (.ref (dq c)) "__init__"==some (some (.ref (v7 c)))&&m_ K (.ref (v7 c))==some (.type "function")))=true
noncomputable def refOf:Value->Addr
 | .ref a=>a
 |_=>0
noncomputable def fieldsOf:Data->Array Value
 | .fields v=>v
 |_=>#[]
theorem yn{d:Data}{i:Nat}(h:fieldsOf d=v)(hx:v[i]? =some x):d= .fields v:=by cases d<;>cases h<;>first|rfl|cases hx
noncomputable def tokOf:Value->Tok
 | .str _ t=>t
 |_=>0
structure ON(K:Frag)(cd:Value):Prop where
 ref:cd= .ref (refOf cd)
 file:((K.lookup (refOf cd)).map λo=>(fieldsOf o.data)[2]?)=some (some (.str (ah "/claim/cut.py") (tokOf (((K.lookup (refOf cd)).bind λo=>(fieldsOf o.data)[2]?).getD .none))))
structure nh(K:Frag)(fd:FuncData)(cc D C:Addr):Prop where
 R5:fd.closure=[(ah "__class__",cc)]
 file:ON K fd.code
 cell:(K.lookup cc).map (·.data)=some (.cell (some (.ref D)))
 cls:(tN K D).isSome=true
 mro:mroIn K C (.ref D)=some true
 head:(fd.params.args.map (·.arg)).head? =some eo
 RJ:fd.scope.names.lookup (ah "super")=some .globalImplicit
 clF:fd.scope.names.lookup (ah "__class__")=some .free
 self:fd.scope.names.lookup eo=some .local
 De:fd.scope.names.all (λx=>decide (x.2≠ .cell))=true
noncomputable def KH(K:Frag)(f:Addr):FuncData:=(n4 K f).getD default
noncomputable abbrev yL(K:Frag)(f cc D C:Addr):Prop:=nh K (KH K f) cc D C
noncomputable def Hm:List Value:=[.ref 69,.ref 40,.type "Exception",.type "BaseException",.type "object"]
noncomputable def vh(K:Frag):qM:=(tN K 81).getD default
noncomputable def Km(K:Frag)(i:Nat):Option Value:=(K.lookup 81).bind λo=>(o.slots[i]?).join
structure KX(K:Frag):Prop where
 cls:K.lookup 81=some (excClassObj (vh K).name (vh K).qualname 81 (vh K).ns (vh K).bases Hm (vh K).hasDict (vh K).slotNames (vh K).subclasses (vh K).abstract (vh K).collection ((K.lookup 81).bind (·.dict)) (Km K 0) (Km K 1) (Km K 2) (Km K 3) (Km K 5) "Exception.__new__")
 call:specialIn K (.ref 81) "__call__"=some (some (.builtin "type.__call__"))
 typ:instIn K (.ref 81) (.type "type")=some true
 init:gq K (.ref 81) "__init__"=some (some (.ref 59))
 R6:m_ K (.ref 59)=some (.type "function")
 set:gq K (.ref 81) "__setattr__"=some (some (.builtin "object.__setattr__"))
 OO:gq K (.ref 81) (ah "what")=some none
 Hy:gq K (.ref 81) (ah "spot")=some none
 obj:mroIn K 81 (.type "object")=some true
 exc:mroIn K 81 (.type "Exception")=some true
 hasDict:(tN K 81).any (·.hasDict)=true
 OP:uK K 81=true
 ga:gq K (.ref 81) "__getattribute__"=some (some (.builtin "BaseException.__getattribute__"))
 Yb:gq K (.ref 81) "__getattr__"=some none
 Yc:mroIn K 81 (.type "BaseException")=some true
noncomputable abbrev eg:Str:=ah "what"
noncomputable abbrev d9:Str:=ah "spot"
noncomputable abbrev R7:Str:=ah "__init__"
noncomputable abbrev v8(a:Str)(ps:List Pos):List Stmt:=
 [.Expr (.Call (.Attribute (.Call (.Name "super" (ps.getD 0 default)) [] [] (ps.getD 1 default)) R7 (ps.getD 2 default)) [.Name eg (ps.getD 3 default)] [] (ps.getD 4 default)) (ps.getD 5 default),
  .Assign [.Attribute (.Name eo (ps.getD 6 default)) a (ps.getD 7 default)] (.Name a (ps.getD 8 default)) (ps.getD 9 default)]
structure KS(K:Frag):Prop where
 RJ:nsIn K cv "super"=some none
 statics:nsIn K cStatics "thirdparty.any"=some none
structure KI(K:Frag):Prop where
 s59:yL K 59 47 69 81
 s30:yL K 30 18 40 81
 m59:eM K 81 69 "__init__"=some (some (.ref 30))
 m30:eM K 81 40 "__init__"=some (some (.builtin "Exception.__init__"))
 t30:m_ K (.ref 30)=some (.type "function")
 n30:gX K 30=true
 f59:∃fd ps,n4 K 59=some fd/\jb fd.body=some (v8 d9 ps)/\fd.params.args.map (·.arg)=[eo,eg,d9]/\fd.scope.names.lookup eg=some .local/\fd.scope.names.lookup d9=some .local/\((ps.getD 2 default).endLine==(ps.getD 4 default).line)=true
 f30:∃fd ps,n4 K 30=some fd/\jb fd.body=some (v8 eg ps)/\fd.params.args.map (·.arg)=[eo,eg]/\fd.scope.names.lookup eg=some .local/\((ps.getD 2 default).endLine==(ps.getD 4 default).line)=true
 s415:yL K 415 403 479 479
 m415:eM K 479 479 "__init__"=some (some (.ref 336))
 t336:m_ K (.ref 336)=some (.type "function")
 n336:gX K 336=true
noncomputable abbrev Tx:=List Nat
noncomputable def S(l:Tx):Str:=⟨l.toArray⟩
theorem EC{a b:Tx}(h:S a=S b):a=b:=congrArg (λs:Str=>s.cps.toList) h
theorem Hz(s:Str):S s.cps.toList=s:=rfl
noncomputable def tx(s:String):Tx:=(ah s).cps.toList
theorem sG(l:Tx):(S l).length=l.length:=rfl
set_option genCtorIdx true in
inductive D where
 |none|bool (b:Bool)|int (i:Int)|str (s:Tx)
 |tup (l:List D)|list (l:List D)
set_option genCtorIdx true in
inductive V where
 |d (x:D)|obj (i:Nat)|tup (l:List V)|dict (l:List (Tx×D))|inst (c:Nat) (l:List (Nat×D))|exc (k:Int)|raw (l:List D)|any (v:Value)
set_option genCtorIdx true in
inductive O where
 |list (l:List V)|dict (l:List (Tx×V))|inst (c:Nat) (l:List (Nat×V))|dead
noncomputable abbrev Store:=List O
noncomputable abbrev Env:=List (Option V)
set_option genCtorIdx true in
inductive Res(α:Type) where
 |stuck|ok (a:α) (σ:Store)|exc (k:Int)
noncomputable abbrev M(α:Type):=Store->Res α
noncomputable def M.ret{α:Type}(a:α):M α:=λσ=>.ok a σ
noncomputable def M.no{α:Type}:M α:=λU=>.stuck
noncomputable def M.raise{α:Type}(k:Int):M α:=λU=>.exc k
noncomputable def Res.bind{α β:Type}(r:Res α)(k:α->Store->Res β):Res β:=match r with
 | .stuck=>.stuck
 | .ok a σ'=>k a σ'
 | .exc x=>.exc x
noncomputable def M.bind{α β:Type}(m:M α)(k:α->M β):M β:=λσ=>(m σ).bind k
noncomputable def M.opt{α:Type}:Option α->M α
 |some a=>.ret a
 |none=>.no
structure nj where
 call:Nat->List V->M V
 acS:Nat
noncomputable abbrev ME:=nj->Env->M V
noncomputable abbrev MB:=nj->Env->M Bool
inductive Fl where
 |next|brk|cont|ret (v:V)
set_option genCtorIdx true in
inductive RS where
 |stuck|ok (f:Fl) (ρ:Env) (σ:Store)|exc (k:Int) (ρ:Env)
noncomputable abbrev MS:=nj->Env->Store->RS
noncomputable def du:Nat->Str
 |0=>ah "vars"|1=>ah "tolds"|2=>ah "goal"|3=>ah "shown"
 |4=>ah "text"|5=>ah "spot"|6=>ah "scanner"|7=>ah "ahead"
 |8=>ah "flat"|9=>ah "spots"|10=>ah "goal_spot"|11=>ah "shown_spot"
 |_=>ah "what"
noncomputable def Bk:List (Nat×Nat):=[(0,0),(0,1),(0,2),(0,3),(1,4),(1,5),(2,6),(2,7),(2,8),(2,9),(2,10),(2,11)]
noncomputable def sH(c k:Nat):Bool:=decide ((c,k)∈Bk)
noncomputable abbrev Vw:=Addr->Option Obj
noncomputable def Sub(B:Vw)(h:Heap):Prop:=∀a o,B a=some o->h.get? a=some o
noncomputable def Le(B B':Vw):Prop:=∀a o,B a=some o->B' a=some o
theorem Le.refl(B:Vw):Le B B:=λU U e=>e
theorem Le.trans{B B' B'':Vw}(x:Le B B')(y:Le B' B''):Le B B'':=λa o e=>y a o (x a o e)
noncomputable def ins(B:Vw)(a:Addr)(o:Obj):Vw:=λx=>if x=a then some o else B x
theorem gz(B:Vw)(a:Addr)(o:Obj):ins B a o a=some o:=if_pos rfl
theorem HA{B:Vw}{a:Addr}(o:Obj)(h:B a=none):Le B (ins B a o):=λb o' e=>by
 unfold ins
 by_cases q:b=a
 ·subst q;rw[h] at e;cases e
 ·rw[if_neg q];exact e
inductive kJ{α:Type}(x:List α)(p:α->Prop)(q:List α->Prop):Prop
 |mk {a:α} {t:List α}:x=a::t->p a->q t->kJ x p q
theorem kJ.el{α:Type}{x:List α}{p:α->Prop}{q:List α->Prop}{b9:Prop}(h9:kJ x p q)(k9:∀{a:α} {t:List α},x=a::t->p a->q t->b9):b9:=kJ.rec (motive:=λU=>b9) k9 h9
noncomputable def dp{α β:Type}(R:α->β->Prop):List α->List β->Prop
 |x,[]=>x=[]
 |x,b::l=>kJ x (λa=>R a b) λt=>dp R t l
inductive dB(B:Vw)(ty:String)(dk:Prop)(v:Value)(R:List Value->Prop):Prop
 |mk {a:Addr} {o:Obj} {vs:List Value} {n:Nat}:v= .ref a->B a=some o->o.cls= .type ty->o.data= .seq vs.toArray n->(dk->o.dict=none)->R vs->dB B ty dk v R
theorem dB.el{B:Vw}{ty:String}{dk:Prop}{v:Value}{R:List Value->Prop}{b9:Prop}(h9:dB B ty dk v R)(k9:∀{a:Addr} {o:Obj} {vs:List Value} {n:Nat},v= .ref a->B a=some o->o.cls= .type ty->o.data= .seq vs.toArray n->(dk->o.dict=none)->R vs->b9):b9:=dB.rec (motive:=λU=>b9) k9 h9
mutual
noncomputable def RD(B:Vw):Value->D->Prop
 |v,.none=>v= .none
 |v,.bool b=>v= .bool b
 |v,.int i=>∃t,v= .int i t
 |v,.str l=>∃t,v= .str (S l) t
 |v,.tup l=>dB B "tuple" False v λvs=>fI B vs l
 |v,.list l=>dB B "list" True v λvs=>fI B vs l
noncomputable def fI(B:Vw):List Value->List D->Prop
 |x,[]=>x=[]
 |x,d::l=>kJ x (λv=>RD B v d) λt=>fI B t l
end
theorem kJ.imp{α:Type}{x:List α}{p p':α->Prop}{q q':List α->Prop}(h:kJ x p q)(hp:∀a,p a->p' a)(hq:∀t,q t->q' t):kJ x p' q':=by
 cases h with|mk e a b=>exact .mk e (hp _ a) (hq _ b)
theorem dB.imp{B B':Vw}{ty:String}{dk:Prop}{v:Value}{R R':List Value->Prop}(h:dB B ty dk v R)(hB:Le B B')(hR:∀vs,R vs->R' vs):dB B' ty dk v R':=by
 cases h with|mk a b c d e r=>exact .mk a (hB _ _ b) c d e (hR _ r)
theorem fI.all{B:Vw}:∀{l:List D} {vs:List Value},fI B vs l->dp (RD B) vs l:=λ{l}=>by
 induction l with
 |nil=>exact λh=>h
 |cons d l ih=>exact λh=>kJ.imp h (λU h=>h) λU h=>ih h
theorem fI.of{B:Vw}:∀{l:List D} {vs:List Value},dp (RD B) vs l->fI B vs l:=λ{l}=>by
 induction l with
 |nil=>exact λh=>h
 |cons d l ih=>exact λh=>kJ.imp h (λU h=>h) λU h=>ih h
theorem RD.mono{B B':Vw}(h:Le B B')(d:D):∀{v:Value},RD B v d->RD B' v d:=
 @D.rec (λd=>∀{v},RD B v d->RD B' v d) (λl=>∀{vs},fI B vs l->fI B' vs l) (λe=>e) (λU U e=>e) (λU U e=>e) (λU U e=>e)
  (λU ih U e=>dB.imp e h λU r=>ih r) (λU ih U e=>dB.imp e h λU r=>ih r) (λe=>e) (λU U i1 i2 U e=>kJ.imp e (λU r=>i1 r) λU r=>i2 r) d
theorem dp.imp{α β:Type}{R R':α->β->Prop}(h:∀a b,R a b->R' a b):∀{y:List β} {x:List α},dp R x y->dp R' x y:=λ{y}=>by
 induction y with
 |nil=>exact λe=>e
 |cons b y ih=>exact λe=>kJ.imp e (λU r=>h _ _ r) λU r=>ih r
theorem fI.mono{B B':Vw}(h:Le B B'){vs:List Value}{l:List D}(r:fI B vs l):fI B' vs l:=.of (r.all.imp λU U r=>RD.mono h _ r)
inductive En{κ δ:Type}(ky:κ->Str)(ok:κ->Int->Prop)(R:Value->δ->Prop)(e:bh)(p:κ×δ):Prop
 |mk {t:Tok}:ok p.1 e.hash->e.key= .str (ky p.1) t->R e.val p.2->En ky ok R e p
theorem En.el{κ δ:Type}{ky:κ->Str}{ok:κ->Int->Prop}{R:Value->δ->Prop}{e:bh}{p:κ×δ}{b9:Prop}(h9:En ky ok R e p)(k9:∀{t:Tok},ok p.1 e.hash->e.key= .str (ky p.1) t->R e.val p.2->b9):b9:=En.rec (motive:=λU=>b9) k9 h9
theorem En.imp{κ δ:Type}{ky:κ->Str}{ok:κ->Int->Prop}{R R':Value->δ->Prop}(h:∀v d,R v d->R' v d){e:bh}{p:κ×δ}(x:En ky ok R e p):En ky ok R' e p:=by
 cases x with|mk a b c=>exact .mk a b (h _ _ c)
noncomputable abbrev zI(P:hY):Tx->Int->Prop:=λk h=>h=cZ P (S k)
noncomputable abbrev F3:Nat->Int->Prop:=λk U=>k<=12
noncomputable abbrev F4(P:hY)(B:Vw):List bh->List (Tx×D)->Prop:=dp (En S (zI P) (RD B))
noncomputable abbrev RK(B:Vw):List bh->List (Nat×D)->Prop:=dp (En du F3 (RD B))
noncomputable abbrev Ads:=List (List Addr)
noncomputable def yM(ι Xt:Ads):Prop:=∀(i:Nat) (x:List Addr),ι[i]? =some x->Xt[i]? =some x
theorem yM.refl(ι:Ads):yM ι ι:=λU U e=>e
theorem yM.trans{a b c:Ads}(x:yM a b)(y:yM b c):yM a c:=λi o e=>y i o (x i o e)
theorem yM.push(ι:Ads)(x:List Addr):yM ι (ι++[x]):=λU U e=>(dG (aL.mp e).1).trans e
structure View where
 P:hY
 B:Vw
 ι:Ads
structure View.le(κ κ':View):Prop where
 P:κ'.P=κ.P
 B:Le κ.B κ'.B
 ι:yM κ.ι κ'.ι
theorem View.le.refl(κ:View):κ.le κ:=⟨rfl,Le.refl _,yM.refl _⟩
theorem View.le.trans{a b c:View}(x:a.le b)(y:b.le c):a.le c:=⟨y.P.trans x.P,x.B.trans y.B,x.ι.trans y.ι⟩
inductive qY(P:hY)(B:Vw)(v:Value)(l:List (Tx×D)):Prop
 |mk {a:Addr} {es:List bh} {n:Nat}:v= .ref a->(a==gN)=false->B a=some (dh es n)->F4 P B es l->qY P B v l
theorem qY.el{P:hY}{B:Vw}{v:Value}{l:List (Tx×D)}{b9:Prop}(h9:qY P B v l)(k9:∀{a:Addr} {es:List bh} {n:Nat},v= .ref a->(a==gN)=false->B a=some (dh es n)->F4 P B es l->b9):b9:=qY.rec (motive:=λU=>b9) k9 h9
inductive qZ(B:Vw)(v:Value)(c:Nat)(l:List (Nat×D)):Prop
 |mk {a dx:Addr} {es:List bh} {n:Nat}:v= .ref a->B a=some (mC (dq c) dx)->B dx=some (dh es n)->RK B es l->qZ B v c l
theorem qZ.el{B:Vw}{v:Value}{c:Nat}{l:List (Nat×D)}{b9:Prop}(h9:qZ B v c l)(k9:∀{a dx:Addr} {es:List bh} {n:Nat},v= .ref a->B a=some (mC (dq c) dx)->B dx=some (dh es n)->RK B es l->b9):b9:=qZ.rec (motive:=λU=>b9) k9 h9
inductive ExcAt(B:Vw)(v:Value)(k:Int):Prop
 |mk {e dx:Addr} {oe:Obj} {vs:Array Value} {es:List bh} {n:Nat} {t:Tok}:v= .ref e->B e=some oe->oe.cls= .ref 81->oe.dict=some dx->oe.data= .fields vs->B dx=some (dh es n)->
   getL (ah "spot") es=some (some (.int k t))->ExcAt B v k
inductive jy(ι:Ads)(v:Value)(i:Nat):Prop
 |mk {a:Addr} {r:List Addr}:v= .ref a->ι[i]? =some (a::r)->jy ι v i
theorem jy.el{ι:Ads}{v:Value}{i:Nat}{b9:Prop}(h9:jy ι v i)(k9:∀{a:Addr} {r:List Addr},v= .ref a->ι[i]? =some (a::r)->b9):b9:=jy.rec (motive:=λU=>b9) k9 h9
mutual
noncomputable def RV(κ:View):Value->V->Prop
 |v,.d x=>RD κ.B v x
 |v,.obj i=>jy κ.ι v i
 |v,.tup l=>dB κ.B "tuple" False v λvs=>o7 κ vs l
 |v,.dict l=>qY κ.P κ.B v l
 |v,.inst c l=>qZ κ.B v c l
 |v,.exc k=>ExcAt κ.B v k
 |v,.raw l=>dB κ.B "list" False v λvs=>fI κ.B vs l
 |v,.any w=>v=w/\nV v=true
noncomputable def o7(κ:View):List Value->List V->Prop
 |x,[]=>x=[]
 |x,d::l=>kJ x (λv=>RV κ v d) λt=>o7 κ t l
end
theorem o7.all{κ:View}:∀{l:List V} {vs:List Value},o7 κ vs l->dp (RV κ) vs l:=λ{l}=>by
 induction l with
 |nil=>exact λh=>h
 |cons d l ih=>exact λh=>kJ.imp h (λU h=>h) λU h=>ih h
theorem o7.of{κ:View}:∀{l:List V} {vs:List Value},dp (RV κ) vs l->o7 κ vs l:=λ{l}=>by
 induction l with
 |nil=>exact λh=>h
 |cons d l ih=>exact λh=>kJ.imp h (λU h=>h) λU h=>ih h
theorem F4.mono{P:hY}{B B':Vw}(h:Le B B'){es:List bh}{l:List (Tx×D)}(r:F4 P B es l):F4 P B' es l:=dp.imp (λU U=>En.imp λU U=>RD.mono h _) r
theorem RK.mono{B B':Vw}(h:Le B B'){es:List bh}{l:List (Nat×D)}(r:RK B es l):RK B' es l:=dp.imp (λU U=>En.imp λU U=>RD.mono h _) r
theorem qY.mono{P P':hY}(e:P'=P){B B':Vw}(h:Le B B'){v:Value}{l:List (Tx×D)}(r:qY P B v l):qY P' B' v l:=by
 subst e;cases r with|mk a b c d=>exact .mk a b (h _ _ c) (F4.mono h d)
theorem qZ.mono{B B':Vw}(h:Le B B'){v:Value}{c:Nat}{l:List (Nat×D)}(r:qZ B v c l):qZ B' v c l:=by
 cases r with|mk a b c d=>exact .mk a (h _ _ b) (h _ _ c) (RK.mono h d)
theorem ExcAt.mono{B B':Vw}(h:Le B B'){v:Value}{k:Int}(r:ExcAt B v k):ExcAt B' v k:=by
 cases r with|mk a b c d e f g=>exact .mk a (h _ _ b) c d e (h _ _ f) g
theorem jy.mono{ι Xt:Ads}(h:yM ι Xt){v:Value}{i:Nat}(r:jy ι v i):jy Xt v i:=by
 cases r with|mk a b=>exact .mk a (h _ _ b)
theorem RV.mono{κ κ':View}(h:κ.le κ')(x:V):∀{v:Value},RV κ v x->RV κ' v x:=
 @V.rec (λx=>∀{v},RV κ v x->RV κ' v x) (λl=>∀{vs},o7 κ vs l->o7 κ' vs l) (λx U e=>RD.mono h.B x e) (λU U e=>jy.mono h.ι e) (λU ih U e=>dB.imp e h.B λU r=>ih r)
  (λU U e=>qY.mono h.P h.B e) (λU U U e=>qZ.mono h.B e) (λU U e=>ExcAt.mono h.B e) (λU U e=>dB.imp e h.B λU r=>fI.mono h.B r) (λU U e=>e) (λe=>e) (λU U i1 i2 U e=>kJ.imp e (λU r=>i1 r) λU r=>i2 r) x
theorem o7.mono{κ κ':View}(h:κ.le κ'){vs:List Value}{l:List V}(r:o7 κ vs l):o7 κ' vs l:=.of (r.all.imp λU U=>RV.mono h _)
noncomputable abbrev Bc(κ:View):List bh->List (Nat×V)->Prop:=dp (En du F3 (RV κ))
noncomputable abbrev Bl(κ:View):List bh->List (Tx×V)->Prop:=dp (En S (zI κ.P) (RV κ))
theorem Bc.mono{κ κ':View}(h:κ.le κ'){es:List bh}{l:List (Nat×V)}(r:Bc κ es l):Bc κ' es l:=dp.imp (λU U=>En.imp λU U=>RV.mono h _) r
theorem Bl.mono{κ κ':View}(h:κ.le κ'){es:List bh}{l:List (Tx×V)}(r:Bl κ es l):Bl κ' es l:=by
 have q:dp (En S (zI κ.P) (RV κ')) es l:=dp.imp (λU U=>En.imp λU U=>RV.mono h _) r
 rw[<-h.P] at q;exact q
inductive HB(κ:View)(h:Heap)(as:List Addr)(l:List V):Prop
 |mk {a:Addr} {vs:List Value} {n:Nat}:as=[a]->h.get? a=some {cls:=.type "list",data:=.seq vs.toArray n}->o7 κ vs l->HB κ h as l
theorem HB.el{κ:View}{h:Heap}{as:List Addr}{l:List V}{b9:Prop}(h9:HB κ h as l)(k9:∀{a:Addr} {vs:List Value} {n:Nat},as=[a]->h.get? a=some {cls:=.type "list",data:=.seq vs.toArray n}->o7 κ vs l->b9):b9:=HB.rec (motive:=λU=>b9) k9 h9
inductive HC(κ:View)(h:Heap)(as:List Addr)(l:List (Tx×V)):Prop
 |mk {a:Addr} {es:List bh} {n:Nat}:as=[a]->h.get? a=some (dh es n)->Bl κ es l->HC κ h as l
theorem HC.el{κ:View}{h:Heap}{as:List Addr}{l:List (Tx×V)}{b9:Prop}(h9:HC κ h as l)(k9:∀{a:Addr} {es:List bh} {n:Nat},as=[a]->h.get? a=some (dh es n)->Bl κ es l->b9):b9:=HC.rec (motive:=λU=>b9) k9 h9
inductive HD(κ:View)(h:Heap)(as:List Addr)(c:Nat)(l:List (Nat×V)):Prop
 |mk {a dx:Addr} {es:List bh} {n:Nat}:as=[a,dx]->h.get? a=some (mC (dq c) dx)->h.get? dx=some (dh es n)->Bc κ es l->(l.map (·.1)).Nodup->(∀p∈l,sH c p.1=true)->HD κ h as c l
theorem HD.el{κ:View}{h:Heap}{as:List Addr}{c:Nat}{l:List (Nat×V)}{b9:Prop}(h9:HD κ h as c l)(k9:∀{a dx:Addr} {es:List bh} {n:Nat},as=[a,dx]->h.get? a=some (mC (dq c) dx)->h.get? dx=some (dh es n)->Bc κ es l->(l.map (·.1)).Nodup->(∀p∈l,sH c p.1=true)->b9):b9:=HD.rec (motive:=λU=>b9) k9 h9
noncomputable def RO(κ:View)(h:Heap)(as:List Addr):O->Prop
 | .list l=>HB κ h as l
 | .dict l=>HC κ h as l
 | .inst c l=>HD κ h as c l
 | .dead=>True
theorem RO.mono{κ κ':View}{h h':Heap}{as:List Addr}(hk:κ.le κ')(hh:∀a∈as,∀o,h.get? a=some o->h'.get? a=some o)(o:O):RO κ h as o->RO κ' h' as o:=by
 cases o with
 |list l=>exact fun| .mk e a r=>.mk e (hh _ (e▸ .head _) _ a) (o7.mono hk r)
 |dict l=>exact fun| .mk e a r=>.mk e (hh _ (e▸ .head _) _ a) (Bl.mono hk r)
 |inst c l=>exact fun| .mk e a b r n m=>.mk e (hh _ (e▸ .head _) _ a) (hh _ (e▸ .tail _ (.head _)) _ b) (Bc.mono hk r) n m
 |dead=>exact λU=>trivial
noncomputable def o8:List (Str×Addr):=[(ah "FdError",40),(ah "SpotFault",69),(ah "TextFault",81),(ah "Flat",150),(ah "FlatScanner",318),(ah "DataReader",395),(ah "FlatReader",479),(ah "is_number",161),(ah "is_row_of_numbers",166),(ah "is_var",173),(ah "fits",178),(ah "machine_fault",183),(ah "told_fault",188),(ah "truths_of",195),(ah "is_truth",200),(ah "piece_fault",207),(ah "shown_fault",214),(ah "is_word",219),(ah "quoted",226),(ah "word_text",233),(ah "open_tuple",240),(ah "data_text",247),(ah "domain_text",252),(ah "flat_text",259),(ah "read_flat",488),(ah "_law_names",495),(ah "_law_domains",502),(ah "_law_forms",509),(ah "_law_draw",516),(ah "_law_numbers",521),(ah "_law_args",526),(ah "_law_told",533),(ah "_law_piece",540),(ah "_law_model",545),(ah "_law_is_plain",550),(ah "_law_quote",555),(ah "_law_pieces",562),(ah "_law_range_pieces",569),(ah "_law_items",576),(ah "_law_joined",581),(ah "_law_blanked",588),(ah "_law_is_read",595),(ah "_law_is_refused",602),(ah "_law_bent",609),(ah "_law_is_begun",616)]
noncomputable def kR:List Str:=[ah "len",ah "isinstance",ah "int",ah "bool",ah "str",ah "tuple",ah "list",ah "dict",ah "all",ah "enumerate",ah "min",ah "max",ah "range",ah "zip",ah "repr",ah "super"]
noncomputable def strTab:List (Str×Tx):=[(ah "DIGITS",(tx "0123456789")),(ah "LETTERS",(tx "abcdefghijklmnopqrstuvwxyzABCDEFGHIJKLMNOPQRSTUVWXYZ_")),(ah "SIGNS",(tx "()[]{},;:"))]
noncomputable def tX:List (Str×D):=[(ah "GOALS",.tup [.str (tx "satisfy"),.str (tx "minimize"),.str (tx "maximize")]),(ah "LINEAR",.tup [.str (tx "linear_le"),.str (tx "linear_eq"),.str (tx "linear_ne")]),(ah "STRENGTHS",.tup [.str (tx "bounds"),.str (tx "values")])]
noncomputable def jc:List (Tx×D):=[((tx "linear_le"),.str (tx "NXn")),((tx "linear_eq"),.str (tx "NXn")),((tx "linear_ne"),.str (tx "NXn")),((tx "times"),.str (tx "xxx")),((tx "div"),.str (tx "xxx")),((tx "mod"),.str (tx "xxx")),((tx "abs"),.str (tx "xx")),((tx "max"),.str (tx "Xx")),((tx "min"),.str (tx "Xx")),((tx "element"),.str (tx "xXx")),((tx "element_of"),.str (tx "xNx")),((tx "table"),.str (tx "XR")),((tx "all_different"),.str (tx "Xs")),((tx "count"),.str (tx "Xnx")),((tx "nvalue"),.str (tx "Xx")),((tx "cardinality"),.str (tx "XNNN")),((tx "cumulative"),.str (tx "XNNn")),((tx "disjunctive"),.str (tx "XN")),((tx "circuit"),.str (tx "X")),((tx "inverse"),.str (tx "XX")),((tx "regular"),.str (tx "XnnRnN")),((tx "lex_le"),.str (tx "XX")),((tx "lex_lt"),.str (tx "XX")),((tx "increasing"),.str (tx "X")),((tx "precede"),.str (tx "nnX")),((tx "clause"),.str (tx "XX")),((tx "and"),.str (tx "Xx")),((tx "or"),.str (tx "Xx")),((tx "xor"),.str (tx "xxx")),((tx "reif"),.str (tx "xt")),((tx "imp"),.str (tx "xt"))]
noncomputable def v9:List (Tx×D):=[((tx "linear_le"),.tup [.tup [.int 1,.int 2]]),((tx "linear_eq"),.tup [.tup [.int 1,.int 2]]),((tx "linear_ne"),.tup [.tup [.int 1,.int 2]]),((tx "cardinality"),.tup [.tup [.int 2,.int 3],.tup [.int 2,.int 4]]),((tx "cumulative"),.tup [.tup [.int 1,.int 2],.tup [.int 1,.int 3]]),((tx "disjunctive"),.tup [.tup [.int 1,.int 2]]),((tx "inverse"),.tup [.tup [.int 1,.int 2]])]
noncomputable def v_:List (Str×List (Tx×D)):=[(ah "FORMS",jc),(ah "PAIRS",v9)]
noncomputable def wa:List (Nat×Str×Addr):=[(0,ah "new_var",126),(0,ah "post",133),(0,ah "size",140),(0,ah "domain_of",147),(1,ah "sign",280),(1,ah "skip",287),(1,ah "run_of",294),(1,ah "quotation",301),(1,ah "number",308),(1,ah "token",315),(2,ah "take",343),(2,ah "is_sign",350),(2,ah "want",357),(2,ah "number",364),(2,ah "word_value",371),(2,ah "opened",378),(2,ah "closed",385),(2,ah "data",392),(2,ah "stretch",422),(2,ah "domain",429),(2,ah "variable",436),(2,ah "constraint",443),(2,ah "goal",450),(2,ah "output",457),(2,ah "item",464),(2,ah "look",471),(2,ah "model",476)]
structure KF(P:hY)(K:Frag):Prop where
 fns:o8.all (λp=>nsIn K cv p.1==some (some (.ref p.2))&&x4 K (.ref p.2))=true
 bare:kR.all (λx=>nsIn K cv x==some none)=true
 txts:∀p∈strTab,∃t,nsIn K cv p.1=some (some (.str (S p.2) t))
 most:∃t,nsIn K cv (ah "MOST_DIGITS")=some (some (.int 1000 t))
 tabs:∀p∈tX,∃a,nsIn K cv p.1=some (some (.ref a))/\RD (λa=>K.lookup a) (.ref a) p.2
 dics:∀p∈v_,∃a es n,nsIn K cv p.1=some (some (.ref a))/\(a==gN)=false/\K.lookup a=some (dh es n)/\F4 P (λa=>K.lookup a) es p.2
 meths:wa.all (λp=>tO K (dq p.1) p.2.1&&(gq K (.ref (dq p.1)) p.2.1==some (some (.ref p.2.2))&&(isFn K (.ref p.2.2)&&x4 K (.ref p.2.2))))=true
 attrs:Bk.all (λp=>gq K (.ref (dq p.1)) (du p.2)==some none&&takerIn K (dq p.1) (du p.2)==some none)=true
 cls:[0,1,2].all (λc=>tO K (dq c) (du 0)&&(uK K (dq c)&&(zF K (dq c)&&(gq K (.ref (dq c)) "__setattr__"==some (some (.builtin "object.__setattr__"))))))=true
structure Wd where
 prog:lr
 w:va
 K:Frag
 p:lr
 loose:List Str
 KJ:ExcName->Option Value
 mg:Str->Option Value
 mb:Str->Option Value
 base:Heap
 g:Array GenState
 o:A9
structure KW(W:Wd):Prop where
 file:((W.prog.main.file:Str)==(ah "/claim/cut.py"))=true
 top:(W.prog.main.scope.names.lookup ("super":Str)).isSome=false
 ks:KS W.K
 kn:KN W.K
 kx:KX W.K
 ki:KI W.K
theorem KW.RJ{W:Wd}(k:KW W):nsIn W.K cv "super"=some none:=k.ks.RJ
theorem KW.statics{W:Wd}(k:KW W):nsIn W.K cStatics "thirdparty.any"=some none:=k.ks.statics
structure Wd.Ok(W:Wd):Prop where
 q_:W.K.In W.base
 kf:KF W.w.params W.K
 top:Top W.p W.loose W.KJ W.mg W.mb W.base
 kw:KW W
structure FI where
 scope:fV
 vars:List Str
 comp:Bool:=false
structure Cx where
 W:Wd
 fi:FI
 F:Vw
 outs:List (aV×Data)
 env:aV
 own:List Addr
 hid:List Addr
 low:View
structure Cx.Ok(c:Cx):Prop where
 w:c.W.Ok
 scope:c.env.scope=c.fi.scope
 kind:c.fi.scope.kind= .function
 globals:c.env.globals=cv
 builtins:c.env.builtins=sy
 base:∀a o,c.W.base.get? a=some o->c.F a=some o
 outs:∀q∈c.outs,q.1.scope.kind≠ .module/\(∀vs,q.2≠ .fields vs)/\∃L,q.1.frame=some L/\L∈c.hid/\c.F L=none/\L∉c.own
 frame:c.fi.comp=false->c.env.frame=some c.env.locals
 loc:c.env.locals∈c.own
 cellOwn:∀x a,c.env.cells.lookup x=some a->c.env.kindOf x=some .cell->a∈c.own
 cellIn:∀x a,c.env.cells.lookup x=some a->a∈c.own\/(c.F a).isSome
 cellHas:∀x,c.env.kindOf x=some .cell->∃a,c.env.cells.lookup x=some a
 cellOff:∀x a,c.env.cells.lookup x=some a->a≠c.env.locals
 apart:∀a∈c.own,a∉c.hid
 cellOne:∀x y a,c.env.cells.lookup x=some a->c.env.cells.lookup y=some a->x=y
 vars:c.fi.vars.Nodup
 above:c.W.base.objs.size<=c.env.locals
 hid:∀a∈c.hid,c.W.base.get? a=none
structure Ko(c:Cx)(n:Nat)(A:dX):Prop where
 handled:A.handled=none
 guards:A.guards=some []
 frames:A.frames=some (if c.fi.comp then c.outs.map (·.1) else c.env::c.outs.map (·.1))
 depth:A.depth+4*n+4<=fc
 units:A.units+40*n+40<=ko
noncomputable def rc(c:Cx)(h:Heap)(m:Str->Option Value)(x:Str)(rv:Value):Prop:=
 (c.env.kindOf x=some .local/\m x=some rv)\/((c.env.kindOf x=some .cell\/c.env.kindOf x=some .free)/\∃a,c.env.cells.lookup x=some a/\h.IsCell a (some rv))
noncomputable def jd(c:Cx)(κ:View)(ρ:Env)(h:Heap)(m:Str->Option Value):Prop:=
 ∀(i:Nat) (x:Str) (v:V),c.fi.vars[i]? =some x->ρ[i]? =some (some v)->∃rv,rc c h m x rv/\RV κ rv v
noncomputable def O.isDead:O->Bool
 | .dead=>true
 |_=>false
structure ED(q:aV×Data)(h:Heap):Prop where
 at_:∀L,q.1.frame=some L->∃o,h.get? L=some o/\o.data=q.2
structure Free(c:Cx)(κ:View)(a:Addr):Prop where
 F:c.F a=none
 B:κ.B a=none
structure EE(κ:View)(h:Heap)(a:Addr):Prop where
 B:κ.B a=none
 ι:a∉κ.ι.flatten
 at_:(h.get? a).isSome
structure OQ(c:Cx)(κ:View)(h:Heap)(a:Addr):Prop extends Free c κ a where
 at_:(h.get? a).isSome
inductive fh(c:Cx)(κ:View)(ρ:Env)(h:Heap):Prop
 |mk {m:Str->Option Value}:h.Ns c.env.locals m->jd c κ ρ h m->fh c κ ρ h
theorem fh.el{c:Cx}{κ:View}{ρ:Env}{h:Heap}{b9:Prop}(h9:fh c κ ρ h)(k9:∀{m:Str->Option Value},h.Ns c.env.locals m->jd c κ ρ h m->b9):b9:=fh.rec k9 h9
inductive n6(κ:View)(h:Heap)(i:Nat)(o:O):Prop
 |mk {as:List Addr}:κ.ι[i]? =some as->RO κ h as o->n6 κ h i o
theorem n6.el{κ:View}{h:Heap}{i:Nat}{o:O}{b9:Prop}(h9:n6 κ h i o)(k9:∀{as:List Addr},κ.ι[i]? =some as->RO κ h as o->b9):b9:=n6.rec k9 h9
structure Yd(low:View)(P:hY)(κ:View):Prop where
 le:low.le κ
 P:κ.P=P
structure St(c:Cx)(κ:View)(ρ:Env)(σ:Store)(s:aI):Prop where
 P:Yd c.low c.W.w.params κ
 rest:s.gens=c.W.g/\s.os=c.W.o
 kept:Sub c.F s.heap
 know:Sub κ.B s.heap
 outer:∀q∈c.outs,ED q s.heap
 hid:∀a∈c.hid,EE κ s.heap a
 priv:∀a∈c.own,OQ c κ s.heap a
 cell:∀(i:Nat) (as:List Addr) (o:O),κ.ι[i]? =some as->σ[i]? =some o->o.isDead=false->∀a∈as,Free c κ a
 there:∀a∈κ.ι.flatten,(s.heap.get? a).isSome
 nodup:(c.own++κ.ι.flatten).Nodup
 vars:fh c κ ρ s.heap
 cells:∀x a,c.env.cells.lookup x=some a->∃v,s.heap.IsCell a v
 plen:ρ.length=c.fi.vars.length
 len:κ.ι.length=σ.length
 store:∀(i:Nat) (o:O),σ[i]? =some o->n6 κ s.heap i o
theorem dU{ι:Ads}{i:Nat}{as:List Addr}(h:ι[i]? =some as){a:Addr}(ha:a∈as):a∈ι.flatten:=
 nK.mpr ⟨as,bM h,ha⟩
theorem some_at{α:Type}{o:Option α}{P:Prop}(h:o.isSome)(k:∀a,o=some a->P):P:=by
 cases o with
 |none=>cases h
 |some a=>exact k a rfl
theorem none_of{α:Type}{o:Option α}(h:∀a,o=some a->False):o=none:=by
 cases o with
 |none=>rfl
 |some a=>exact (h a rfl).elim
theorem gr{α:Type}{o:Option α}{a:α}{P:Prop}(h:o=none)(e:o=some a):P:=by rw[h] at e;cases e
theorem gu{α:Type}{o:Option α}{P:Prop}(h:o=none)(e:o.isSome):P:=by rw[h] at e;cases e
theorem isSome_of{α:Type}{o:Option α}{a:α}(e:o=some a):o.isSome:=by rw[e];rfl
theorem tY{h:Heap}{a:Addr}(hs:(h.get? a).isSome):a<h.objs.size:=some_at hs λU=>cA
theorem old_ne{h:Heap}{a:Addr}{P:Prop}(hs:(h.get? a).isSome)(ha:h.objs.size<=a):P:=absurd (tY hs) (gJ.mpr ha)
section
variable{c:Cx}{κ κ':View}{ρ:Env}{σ:Store}{s:aI}
noncomputable def fP(c:Cx)(κ:View)(b:Addr):Prop:=(c.F b).isSome\/(κ.B b).isSome\/b∈c.own\/b∈c.hid\/b∈κ.ι.flatten
theorem St.lt(x:St c κ ρ σ s){b:Addr}(h:fP c κ b):(s.heap.get? b).isSome:=by
 rcases h with h|h|h|h|h
 ·exact some_at h λo e=>isSome_of (x.kept b o e)
 ·exact some_at h λo e=>isSome_of (x.know b o e)
 ·exact (x.priv b h).at_
 ·exact (x.hid b h).at_
 ·exact x.there b h
theorem St.keep(x:St c κ ρ σ s)(ok:c.Ok){h':Heap}{tk:Tok}(k:∀b o,fP c κ b->s.heap.get? b=some o->h'.get? b=some o):St c κ ρ σ {s with heap:=h',toks:=tk}:=by
 have mF:∀b o,c.F b=some o->fP c κ b:=λb o e=>.inl (isSome_of e)
 have mO:∀b,b∈c.own->fP c κ b:=λb e=>.inr (.inr (.inl e))
 have mH:∀b,b∈c.hid->fP c κ b:=λb e=>.inr (.inr (.inr (.inl e)))
 have mI:∀b,b∈κ.ι.flatten->fP c κ b:=λb e=>.inr (.inr (.inr (.inr e)))
 have kc:∀y b v,c.env.cells.lookup y=some b->s.heap.IsCell b v->h'.IsCell b v:=λy b v e ⟨o,e1,e2⟩=>⟨o,k b o ((λy b e=>(ok.cellIn y b e).elim (mO b) .inl) y b e) e1,e2⟩
 exact {
  P:=x.P
  rest:=x.rest
  kept:=λa o e=>k a o (mF a o e) (x.kept a o e)
  know:=λa o e=>k a o (.inr (.inl (isSome_of e))) (x.know a o e)
  outer:=λq hq=>⟨λL hL=>by
   refine ((x.outer q hq).at_ L hL).elim λo z0=>z0.elim λho hd=>?_
   exact (ok.outs q hq).elim λU z0=>z0.elim λU z1=>z1.elim λL' z2=>z2.elim λRL z3=>z3.elim λhh U=>⟨o,k L o (mH L ((aF (hL.symm.trans RL):L=L')▸hh)) ho,hd⟩⟩
  hid:=λa ha=>⟨(x.hid a ha).B,(x.hid a ha).ι,(λb hb=>some_at (x.lt hb) λo e=>isSome_of (k b o hb e)) a (mH a ha)⟩
  priv:=λa ha=>⟨(x.priv a ha).toFree,(λb hb=>some_at (x.lt hb) λo e=>isSome_of (k b o hb e)) a (mO a ha)⟩
  cell:=x.cell
  there:=λa ha=>(λb hb=>some_at (x.lt hb) λo e=>isSome_of (k b o hb e)) a (mI a ha)
  nodup:=x.nodup
  vars:=by
   refine x.vars.el λhm hv=>?_
   exact .mk (hm.at' λo e=>k _ o (mO _ ok.loc) e) λi y v h1 h2=>by
    obtain ⟨rv,Bm,hr⟩:=hv i y v h1 h2;exact ⟨rv,Bm.imp id λ⟨q,a,ha,hc⟩=>⟨q,a,ha,kc y a _ ha hc⟩,hr⟩
  cells:=λy a ha=>by obtain ⟨v,hv⟩:=x.cells y a ha;exact ⟨v,kc y a v ha hv⟩
  plen:=x.plen
  len:=x.len
  store:=λi o e=>by
   refine (x.store i o e).el λha hr=>?_
   exact .mk ha (RO.mono (View.le.refl κ) (λa hm o'=>k a o' (mI a (dU ha hm))) o hr)}
theorem St.grow(x:St c κ ρ σ s)(ok:c.Ok){h':Heap}{tk:Tok}(k:∀b o,s.heap.get? b=some o->h'.get? b=some o):St c κ ρ σ {s with heap:=h',toks:=tk}:=x.keep ok λb o U=>k b o
theorem St.tok(x:St c κ ρ σ s)(tk:Tok):St c κ ρ σ {s with toks:=tk}:={P:=x.P,rest:=x.rest,kept:=x.kept,know:=x.know,outer:=x.outer,hid:=x.hid,priv:=x.priv,cell:=x.cell,there:=x.there,nodup:=x.nodup,vars:=x.vars,cells:=x.cells,plen:=x.plen,len:=x.len,store:=x.store}
theorem jd.le{h:Heap}{m:Str->Option Value}(l:κ.le κ')(v:jd c κ ρ h m):jd c κ' ρ h m:=λi y w h1 h2=>by
 obtain ⟨rv,Bm,hr⟩:=v i y w h1 h2;exact ⟨rv,Bm,RV.mono l _ hr⟩
theorem fh.le{h:Heap}(l:κ.le κ')(v:fh c κ ρ h):fh c κ' ρ h:=v.el λa b=>.mk a (b.le l)
theorem n6.le{h:Heap}{i:Nat}{o:O}(l:κ.le κ')(v:n6 κ h i o):n6 κ' h i o:=v.el λa b=>.mk (l.ι _ _ a) (RO.mono l (λU U U e=>e) o b)
noncomputable def View.add(κ:View)(a:Addr)(o:Obj):View:={κ with B:=ins κ.B a o}
theorem View.zJ{a:Addr}(o:Obj)(h:κ.B a=none):κ.le (κ.add a o):=⟨rfl,HA o h,yM.refl _⟩
theorem St.EF(x:St c κ ρ σ s){B':Vw}(hB:Le κ.B B')(hk:Sub B' s.heap)(hp:∀a,(a∈c.own\/a∈c.hid\/∃(i:Nat) (as:List Addr) (o:O),κ.ι[i]? =some as/\σ[i]? =some o/\o.isDead=false/\a∈as)->B' a=none):St c {κ with B:=B'} ρ σ s:=
 have l:κ.le {κ with B:=B'}:=⟨rfl,hB,yM.refl _⟩
 {
  P:=⟨x.P.le.trans l,x.P.P⟩,rest:=x.rest,kept:=x.kept,know:=hk,outer:=x.outer
  hid:=λa ha=>⟨hp a (.inr (.inl ha)),(x.hid a ha).ι,(x.hid a ha).at_⟩
  priv:=λa ha=>⟨⟨(x.priv a ha).F,hp a (.inl ha)⟩,(x.priv a ha).at_⟩
  cell:=λi as o h1 h2 h3 a ha=>⟨(x.cell i as o h1 h2 h3 a ha).F,hp a (.inr (.inr ⟨i,as,o,h1,h2,h3,ha⟩))⟩
  there:=x.there,nodup:=x.nodup,vars:=x.vars.le l,cells:=x.cells,plen:=x.plen,len:=x.len,store:=λi o e=>(x.store i o e).le l}
theorem wb{B:Vw}{a b:Addr}{o:Obj}(h:b≠a):ins B a o b=B b:=if_neg h
theorem zL{B:Vw}{h:Heap}{a:Addr}{o:Obj}(hB:Sub B h)(ho:h.get? a=some o):Sub (ins B a o) h:=λb x e=>by
 by_cases q:b=a
 ·subst q;rw[gz] at e;cases e;exact ho
 ·rw[wb q] at e;exact hB b x e
theorem St.F5(x:St c κ ρ σ s){a:Addr}(ha:s.heap.objs.size<=a):κ.B a=none:=none_of λo e=>old_ne (isSome_of (x.know a o e)) ha
theorem St.KO(x:St c κ ρ σ s){a:Addr}(ha:s.heap.objs.size<=a):c.F a=none:=none_of λo e=>old_ne (isSome_of (x.kept a o e)) ha
theorem St.fresh(x:St c κ ρ σ s)(ok:c.Ok){h':Heap}{tk:Tok}(k:∀b o,s.heap.get? b=some o->h'.get? b=some o){a:Addr}{o:Obj}(ha:s.heap.objs.size<=a)(hn:h'.get? a=some o):
  κ.le (κ.add a o)/\St c (κ.add a o) ρ σ {s with heap:=h',toks:=tk}:=
 have no:∀b,fP c κ b->κ.B b=none->ins κ.B a o b=none:=λb m e=>(wb λq=>old_ne (x.lt m) (ac ha (aW q.symm))).trans e
 ⟨View.zJ o (x.F5 ha),(x.grow (tk:=tk) ok k).EF (HA o (x.F5 ha)) (zL (x.grow ok k).know hn) λb hb=>by
  rcases hb with h|h|⟨i,as,o',h1,h2,h3,h4⟩
  ·exact no b (.inr (.inr (.inl h))) (x.priv b h).B
  ·exact no b (.inr (.inr (.inr (.inl h)))) (x.hid b h).B
  ·exact no b (.inr (.inr (.inr (.inr (dU h1 h4))))) (x.cell i as o' h1 h2 h3 b h4).B⟩
end
noncomputable def iY(c:Cx)(κ:View)(a:Addr):Prop:=(c.F a).isSome\/(κ.B a).isSome\/a∈c.own\/a∈c.hid
inductive KP(av:Addr->Prop)(L:Option Addr)(h:Heap)(e dx:Addr)(v:Option Value):Prop
 |none:v=some .none->KP av L h e dx v
 |some {T:Addr} {oT:Obj} {ts:Array Value}:v=some (.ref T)->T≠e->T≠dx->¬av T->h.get? T=some oT->oT.data= .fields ts->(ts[3]? =some .none\/∃l,L=some l/\ts[3]? =some (jY l))->KP av L h e dx v
inductive yN(av:Addr->Prop)(L:Option Addr)(h:Heap)(e:Addr)(k:Int):Prop
 |mk {oe:Obj} {vs:Array Value} {dx:Addr} {es:List bh} {n:Nat} {t:Tok}:h.get? e=some oe->oe.cls= .ref 81->oe.dict=some dx->oe.data= .fields vs->h.get? dx=some (dh es n)->
   getL (ah "spot") es=some (some (.int k t))->¬av e->¬av dx->1<vs.size->KP av L h e dx vs[1]? ->yN av L h e k
theorem yN.el{av:Addr->Prop}{L:Option Addr}{h:Heap}{e:Addr}{k:Int}{b9:Prop}(h9:yN av L h e k)(k9:∀{oe:Obj} {vs:Array Value} {dx:Addr} {es:List bh} {n:Nat} {t:Tok},h.get? e=some oe->oe.cls= .ref 81->oe.dict=some dx->oe.data= .fields vs->h.get? dx=some (dh es n)->getL (ah "spot") es=some (some (.int k t))->¬av e->¬av dx->1<vs.size->KP av L h e dx vs[1]? ->b9):b9:=yN.rec k9 h9
theorem yN.up{av av':Addr->Prop}{L:Option Addr}{h h':Heap}{e:Addr}{k:Int}(f:yN av L h e k)(ha:∀a,av' a->av a)(hh:∀a o,¬av a->h.get? a=some o->h'.get? a=some o):yN av' L h' e k:=by
 refine f.el λa b c d e f g i j t=>.mk (hh _ _ g a) b c d (hh _ _ i e) f (λq=>g (ha _ q)) (λq=>i (ha _ q)) j ?_
 cases t with
 |none x=>exact .none x
 |some x y z w u v q=>exact .some x y z (λq=>w (ha _ q)) (hh _ _ w u) v q
theorem yN.low{av:Addr->Prop}{L:Option Addr}{h:Heap}{e:Addr}{k:Int}(f:yN av none h e k):yN av L h e k:=by
 refine f.el λa b c d e f g i j t=>.mk a b c d e f g i j ?_
 cases t with
 |none x=>exact .none x
 |some x y z w u v q=>exact .some x y z w u v (q.imp id λ⟨_,q,_⟩=>nomatch q)
structure n7(c:Cx)(κ:View)(ρ:Env)(e:Addr)(k:Int)(s:aI):Prop where
 P:Yd c.low c.W.w.params κ
 rest:s.gens=c.W.g/\s.os=c.W.o
 kept:Sub c.F s.heap
 know:Sub κ.B s.heap
 outer:∀q∈c.outs,ED q s.heap
 hid:∀a∈c.hid,κ.B a=none
 priv:∀a∈c.own,Free c κ a
 there:∀a,a∈c.own\/a∈c.hid->(s.heap.get? a).isSome
 vars:fh c κ ρ s.heap
 cells:∀x a,c.env.cells.lookup x=some a->∃v,s.heap.IsCell a v
 fly:yN (iY c κ) c.env.frame s.heap e k
structure cO where
 p:View->Prop
 up:∀{κ κ':View},κ.le κ'->p κ->p κ'
noncomputable def cO.nil:cO:=⟨λU=>True,λU h=>h⟩
noncomputable def cO.v(τ:cO)(v:Value)(x:V):cO:=⟨λκ=>RV κ v x/\τ.p κ,λl h=>⟨RV.mono l x h.1,τ.up l h.2⟩⟩
noncomputable def cO.vs(τ:cO)(vs:List Value)(xs:List V):cO:=⟨λκ=>o7 κ vs xs/\τ.p κ,λl h=>⟨o7.mono l h.1,τ.up l h.2⟩⟩
inductive dY(c:Cx)(τ:cO)(ρ:Env)(σ:Store)(s:aI):Prop
 |mk {κ:View}:St c κ ρ σ s->τ.p κ->dY c τ ρ σ s
theorem dY.el{c:Cx}{τ:cO}{ρ:Env}{σ:Store}{s:aI}{b9:Prop}(h9:dY c τ ρ σ s)(k9:∀{κ:View},St c κ ρ σ s->τ.p κ->b9):b9:=dY.rec k9 h9
inductive Bn(c:Cx)(ρ:Env)(k:Int)(v:Value)(s:aI):Prop
 |mk {κ:View} {e:Addr}:v= .ref e->n7 c κ ρ e k s->Bn c ρ k v s
theorem Bn.el{c:Cx}{ρ:Env}{k:Int}{v:Value}{s:aI}{b9:Prop}(h9:Bn c ρ k v s)(k9:∀{κ:View} {e:Addr},v= .ref e->n7 c κ ρ e k s->b9):b9:=Bn.rec k9 h9
theorem dY.le{c:Cx}{τ τ':cO}{ρ:Env}{σ:Store}{s:aI}(x:dY c τ ρ σ s)(h:∀κ,τ.p κ->τ'.p κ):dY c τ' ρ σ s:=x.el λa b=>.mk a (h _ b)
noncomputable def Go{β:Type}(r:Res β)(K:β->Store->Prop)(X:Int->Prop):Prop:=match r with
 | .stuck=>False
 | .ok b σ=>K b σ
 | .exc k=>X k
theorem Go.seq{β γ:Type}{r:Res β}{k:β->Store->Res γ}{K:γ->Store->Prop}{K':β->Store->Prop}{X:Int->Prop}(h:Go (r.bind k) K X)(g:∀b σ,Go (k b σ) K X->K' b σ):Go r K' X:=by
 cases r with
 |stuck=>exact h
 |ok b σ=>exact g b σ h
 |exc k=>exact h
theorem Go.mono{β:Type}{r:Res β}{K K':β->Store->Prop}{X X':Int->Prop}(h:Go r K X)(g:∀b σ,K b σ->K' b σ)(g':∀k,X k->X' k):Go r K' X':=by
 cases r with
 |stuck=>exact h
 |ok b σ=>exact g b σ h
 |exc k=>exact g' k h
noncomputable abbrev Pq(α:Type):=α->aI->Prop
noncomputable def KV(c:Cx)(τ:cO)(ρ:Env)(Q:Pq Value):V->Store->Prop:=λx σ=>∀v s,dY c (τ.v v x) ρ σ s->Q v s
noncomputable def KQ(c:Cx)(τ:cO)(ρ:Env)(Q:Pq Value):Bool->Store->Prop:=λq σ=>∀s,dY c τ ρ σ s->Q (.bool q) s
noncomputable def KB(c:Cx)(τ:cO)(ρ:Env)(Q:Pq Bool):Bool->Store->Prop:=λq σ=>∀s,dY c τ ρ σ s->Q q s
noncomputable def KL(c:Cx)(τ:cO)(ρ:Env)(Q:Pq (List Value)):List V->Store->Prop:=λxs σ=>∀vs s,dY c (τ.vs vs xs) ρ σ s->Q vs s
noncomputable def KE(c:Cx)(ρ:Env)(E:Pq Value):Int->Prop:=λk=>∀v s,Bn c ρ k v s->E v s
noncomputable def rH(W:Wd)(n:Nat)(C:nj):Prop:=∀(c:Cx) (A:dX),c.W=W->c.Ok->Ko c n A->∀(τ:cO) (ρ:Env) (σ:Store) (s:aI) (f:Nat) (vS:List Value) (vs:List V) (Q E:Pq Value),
 dY c (τ.vs vS vs) ρ σ s->Go (C.call f vs σ) (KV c τ ρ Q) (KE c ρ E)->aO (bS c.W.prog c.W.w) A (call (.ref f) vS) Q E s
structure Z(fi:FI) where
 c:Cx
 n:Nat
 A:dX
 C:nj
 fi:c.fi=fi
 ok:c.Ok
 a:Ko c n A
 call:rH c.W n C
noncomputable abbrev Z.M{fi:FI}(z:Z fi):pj:=bS z.c.W.prog z.c.W.w
noncomputable def aD(fi:FI)(e:Expr)(m:ME):Prop:=∀(z:Z fi) {τ:cO} {ρ:Env} {σ:Store} {s:aI} {Q E:Pq Value},dY z.c τ ρ σ s->Go (m z.C ρ σ) (KV z.c τ ρ Q) (KE z.c ρ E)->aO z.M z.A (eval e z.c.env) Q E s
noncomputable def b_(fi:FI)(e:Expr)(m:MB):Prop:=∀(z:Z fi) {τ:cO} {ρ:Env} {σ:Store} {s:aI} {Q E:Pq Value},dY z.c τ ρ σ s->Go (m z.C ρ σ) (KQ z.c τ ρ Q) (KE z.c ρ E)->aO z.M z.A (eval e z.c.env) Q E s
noncomputable def cC(fi:FI)(e:Expr)(m:MB):Prop:=∀(z:Z fi) {τ:cO} {ρ:Env} {σ:Store} {s:aI} {Q:Pq Bool} {E:Pq Value},dY z.c τ ρ σ s->Go (m z.C ρ σ) (KB z.c τ ρ Q) (KE z.c ρ E)->aO z.M z.A (x5 e z.c.env (eval e z.c.env)) Q E s
noncomputable def Bo(i:Nat):ME:=λU ρ=>match ρ[i]? with
 |some (some v)=>M.ret v
 |_=>M.no
noncomputable def eV(v:V):ME:=λU U=>M.ret v
noncomputable def eD(x:D):ME:=λU U=>M.ret (.d x)
noncomputable def KR(f:V->V->M V)(l r:ME):ME:=λC ρ=>(l C ρ).bind λa=>(r C ρ).bind λb=>f a b
noncomputable def R8(f:V->M V)(l:ME):ME:=λC ρ=>(l C ρ).bind f
noncomputable def eIf(t:MB)(a b:ME):ME:=λC ρ=>(t C ρ).bind λq=>cond q (a C ρ) (b C ρ)
noncomputable def R9(t:MB):MB:=λC ρ=>(t C ρ).bind λq=>M.ret (!q)
noncomputable def R_(l r:MB):MB:=λC ρ=>(l C ρ).bind λq=>cond q (r C ρ) (M.ret false)
noncomputable def bOr(l r:MB):MB:=λC ρ=>(l C ρ).bind λq=>cond q (M.ret true) (r C ρ)
noncomputable def OR(q:Bool):MB:=λU U=>M.ret q
noncomputable def OS(f:V->V->M Bool)(l r:ME):MB:=λC ρ=>(l C ρ).bind λa=>(r C ρ).bind λb=>f a b
noncomputable def OT(f:V->M Bool)(l:ME):MB:=λC ρ=>(l C ρ).bind f
noncomputable def bIf(t a b:MB):MB:=λC ρ=>(t C ρ).bind λq=>cond q (a C ρ) (b C ρ)
noncomputable def OU(f g:V->V->M Bool)(l m r:ME):MB:=λC ρ=>(l C ρ).bind λa=>(m C ρ).bind λb=>(f a b).bind λq=>cond q ((r C ρ).bind λd=>g b d) (M.ret false)
noncomputable abbrev MAs:=nj->Env->M (List V)
noncomputable def aNil:MAs:=λU U=>M.ret []
noncomputable def Bp(e:ME)(r:MAs):MAs:=λC ρ=>(e C ρ).bind λv=>(r C ρ).bind λvs=>M.ret (v::vs)
noncomputable def vB(m:M Bool):M V:=m.bind λq=>M.ret (.d (.bool q))
noncomputable def eB(m:MB):ME:=λC ρ=>vB (m C ρ)
noncomputable def c5(fi:FI)(es:List Expr)(m:MAs):Prop:=∀(z:Z fi) {τ:cO} {ρ:Env} {σ:Store} {s:aI} {Q:Pq (List Value)} {E:Pq Value} (pos:Pos),dY z.c τ ρ σ s->Go (m z.C ρ σ) (KL z.c τ ρ Q) (KE z.c ρ E)->
 aO z.M z.A (spliced (iV pos (d7 es z.c.env))) Q E s
section
variable{fi:FI}(z:Z fi)
theorem Z.kind:z.c.env.scope.kind= .function:=by rw[z.ok.scope];exact z.ok.kind
theorem Z.keep(x:St z.c κ ρ σ s):∀b o,z.c.W.base.get? b=some o->s.heap.get? b=some o:=λb o e=>x.kept b o (z.ok.base b o e)
theorem Z.q_(x:St z.c κ ρ σ s):z.c.W.K.In s.heap:=z.ok.w.q_.keeps (z.keep x)
theorem Z.top(x:St z.c κ ρ σ s):Top z.c.W.p z.c.W.loose z.c.W.KJ z.c.W.mg z.c.W.mb s.heap:=z.ok.w.top.keeps (z.keep x)
theorem dY.tok(x:dY c τ ρ σ s)(tk:Tok):dY c τ ρ σ {s with toks:=tk}:=x.el λa b=>.mk (a.tok tk) b
theorem dY.d{c:Cx}(x:dY c τ ρ σ s){d:D}(h:∀B,RD B v d):dY c (τ.v v (.d d)) ρ σ s:=x.le λκ p=>⟨h κ.B,p⟩
theorem aD.loc(hx:fi.vars[i]? =some x)(hd:(x==("__debug__":Str))=false)(hc:(x==("__classdict__":Str))=false):aD fi (.Name x pos) (Bo i):=λz τ ρ σ s Q E st h=>by
 have h:Go ((match ρ[i]? with|some (some v)=>M.ret v|_=>M.no) σ) (KV z.c τ ρ Q) (KE z.c ρ E):=h
 cases hv:ρ[i]? with
 |none=>rw [hv] at h;exact h.elim
 |some o=>cases o with
 |none=>rw [hv] at h;exact h.elim
 |some v=>
  rw[hv] at h;refine st.el λst ht=>st.vars.el λhm Sa=>(Sa i x v (by rw[z.fi];exact hx) hv).elim λrv z0=>z0.elim λBm hr=>?_
  have h:=h rv s (.mk st ⟨hr,ht⟩);refine wpAny_Name ?_ hd
  rcases Bm with ⟨h1,h2⟩|⟨h1|h1,a,ha,EG⟩
  ·exact kq z.kind h1 hm h2 h
  ·exact wpAny_loadName_cell z.kind h1 ha EG h
  ·exact qX z.kind h1 ha EG h hc
theorem aD.int:aD fi (.Constant (.int i) k pos) (eD (.int i)):=λU U U U U U U st h=>l7 (h _ _ ((st.tok _).d λU=>⟨_,rfl⟩))
theorem aD.str(hx:x=S l):aD fi (.Constant (.str x) k pos) (eD (.str l)):=λU U U U U U U st h=>iP (h _ _ ((st.tok _).d λU=>⟨_,by rw[hx]⟩))
theorem aD.bool:aD fi (.Constant (.bool b) k pos) (eD (.bool b)):=λU U U U U U U st h=>Constant_bool (h _ _ (st.d λU=>rfl))
theorem aD.none:aD fi (.Constant .none k pos) (eD .none):=λU U U U U U U st h=>Constant_none (h _ _ (st.d λU=>rfl))
noncomputable def qN(op:Value->Value->Sem Value)(f:V->V->M V):Prop:=∀{fi:FI} (z:Z fi) {τ:cO} {ρ:Env} {σ:Store} {s:aI} {Q E:Pq Value} {a b:Value} {x y:V},dY z.c ((τ.v a x).v b y) ρ σ s->Go (f x y σ) (KV z.c τ ρ Q) (KE z.c ρ E)->aO z.M z.A (op a b) Q E s
noncomputable def EH(op:Value->Sem Value)(f:V->M V):Prop:=∀{fi:FI} (z:Z fi) {τ:cO} {ρ:Env} {σ:Store} {s:aI} {Q E:Pq Value} {a:Value} {x:V},dY z.c (τ.v a x) ρ σ s->Go (f x σ) (KV z.c τ ρ Q) (KE z.c ρ E)->aO z.M z.A (op a) Q E s
noncomputable def Na(op:Value->Sem Bool)(f:V->M Bool):Prop:=∀{fi:FI} (z:Z fi) {τ:cO} {ρ:Env} {σ:Store} {s:aI} {Q:Pq Bool} {E:Pq Value} {a:Value} {x:V},dY z.c (τ.v a x) ρ σ s->Go (f x σ) (KB z.c τ ρ Q) (KE z.c ρ E)->aO z.M z.A (op a) Q E s
noncomputable def qO(op:CmpOp)(f:V->V->M Bool):Prop:=∀{fi:FI} (z:Z fi) {τ:cO} {ρ:Env} {σ:Store} {s:aI} {Q E:Pq Value} {a b:Value} {x y:V},dY z.c ((τ.v a x).v b y) ρ σ s->Go (f x y σ) (KQ z.c τ ρ Q) (KE z.c ρ E)->aO z.M z.A (dF op a b) Q E s
end
section
theorem aD.bin(hf:qN (dH op) f)(hl:aD fi l ml)(hr:aD fi r mr):aD fi (.BinOp l op r pos) (KR f ml mr):=λz U U U U U U st h=>
 vb (hl z st (h.seq λU U h U U st=>hr z st (h.seq λU U h U U st=>hf z st h)))
theorem aD.Ye(hf:EH (unaryOp op) f)(hl:aD fi l m):aD fi (.UnaryOp op l pos) (R8 f m):=λz U U U U U U st h=>UnaryOp_ (hl z st (h.seq λU U h U U st=>hf z st h))
theorem b_.e{e:Expr}(h:b_ fi e m):aD fi e (eB m):=λz U U U U U U st g=>h z st (g.seq λU U g U st=>g _ _ (st.d λU=>rfl))
theorem b_.cmp(hf:qO op f)(hl:aD fi l ml)(hr:aD fi r mr)(hm:nf op r=false):b_ fi (.Compare l [op] [r] pos) (OS f ml mr):=λz U U U U U U st h=>
 x6 (hl z st (h.seq λU U h U U st=>hr z st (h.seq λU U h U U st=>hf z st h))) hm
theorem cC.cmp(hf:qO op f)(hl:aD fi l ml)(hr:aD fi r mr)(hm:nf op r=false):cC fi (.Compare l [op] [r] pos) (OS f ml mr):=λz U U U U U U st h=>
 pG (hl z st (h.seq λU U h U U st=>hr z st (h.seq λU U h U U st=>hf z st (h.mono (λU U h U st=>dN (h _ st)) λU h=>h)))) hm
theorem b_.chain(hf:qO Bq f)(hg:qO vk g)(hl:aD fi l ml)(hm:aD fi m mm)(hr:aD fi r mr)(hk:lastMarks [Bq,vk] [m,r]=false):
  b_ fi (.Compare l [Bq,vk] [m,r] pos) (OU f g ml mm mr):=λz τ U U U U U st h=>
 yI (hl z st (h.seq λU U h a U st=>chain_link (hm z st (h.seq λy U h b U st=>hf z (τ:=τ.v b y) (st.le λU h=>⟨h.1,h.2.1,h.1,h.2.2⟩) (h.seq λq U h U st=>dN (by
  cases q with
  |false=>exact h _ (st.le λU h=>h.2)
  |true=>exact chain_last (hr z st (h.seq λU U h U U st=>hg z st h)))))))) hk
theorem cC.plain(hf:Na x7 f)(h:aD fi e m)(he:∀(env:aV) (whole:Sem Value),x5 e env whole=(do let v<-whole;f' e.pos;g9 [v] (x7 v))):cC fi e (OT f m):=λz U U U U U U st g=>
 isTrue_plain (h z st (g.seq λU U g U U st=>hf z st g)) (he _ _)
theorem cC.not(h:cC fi e m):cC fi (.UnaryOp .Not e pos) (R9 m):=λz U U U U U U st g=>isTrue_not (h z st (g.seq λU U g U st=>g _ st))
theorem cC.and_nil:cC fi (.BoolOp .And [] pos) (OR true):=λU U U U U U U st h=>isTrue_and_nil (h _ st)
theorem cC.or_nil:cC fi (.BoolOp .Or [] pos) (OR false):=λU U U U U U U st h=>isTrue_or_nil (h _ st)
theorem cC.and(h:cC fi x m)(hr:cC fi (.BoolOp .And rest pos) mr):cC fi (.BoolOp .And (x::rest) pos) (R_ m mr):=λz U U U U U U st g=>isTrue_and (h z st (g.seq λq U g U st=>by
 cases q with
 |true=>exact hr z st g
 |false=>exact g _ st))
theorem cC.or(h:cC fi x m)(hr:cC fi (.BoolOp .Or rest pos) mr):cC fi (.BoolOp .Or (x::rest) pos) (bOr m mr):=λz U U U U U U st g=>isTrue_or (h z st (g.seq λq U g U st=>by
 cases q with
 |false=>exact hr z st g
 |true=>exact g _ st))
theorem aD.ite{t a b:Expr}{mt:MB}(ht:cC fi t mt)(ha:aD fi a ma)(hb:aD fi b mb):aD fi (.IfExp t a b pos) (eIf mt ma mb):=λz U U U U U U st g=>IfExp_ (ht z st (g.seq λq U g U st=>by
 cases q with
 |true=>exact ha z st g
 |false=>exact hb z st g))
theorem cC.ite{t a b:Expr}{mt:MB}(ht:cC fi t mt)(ha:cC fi a ma)(hb:cC fi b mb):cC fi (.IfExp t a b pos) (bIf mt ma mb):=λz U U U U U U st g=>isTrue_IfExp (ht z st (g.seq λq U g U st=>by
 cases q with
 |true=>exact ha z st g
 |false=>exact hb z st g))
theorem b_.OV(h:b_ fi x m):b_ fi (.BoolOp .And [x] pos) m:=λz U U U U U U st g=>h z st g
theorem b_.Sb(h:b_ fi x m):b_ fi (.BoolOp .Or [x] pos) m:=λz U U U U U U st g=>h z st g
theorem b_.and(h:b_ fi x m)(hr:b_ fi (.BoolOp .And (y::rest) pos) mr):b_ fi (.BoolOp .And (x::y::rest) pos) (R_ m mr):=λz U U U U U U st g=>BoolOp_and (h z st (g.seq λq U g U st=>dN (by
 cases q with
 |true=>exact hr z st g
 |false=>exact g _ st)))
theorem b_.or(h:b_ fi x m)(hr:b_ fi (.BoolOp .Or (y::rest) pos) mr):b_ fi (.BoolOp .Or (x::y::rest) pos) (bOr m mr):=λz U U U U U U st g=>BoolOp_or (h z st (g.seq λq U g U st=>dN (by
 cases q with
 |false=>exact hr z st g
 |true=>exact g _ st)))
theorem b_.not(h:b_ fi x m):b_ fi (.UnaryOp .Not x pos) (R9 m):=λz U U U U U U st g=>UnaryOp_ (h z st (g.seq λU U g U st=>not_of (dN (g _ st))))
theorem c5.nil:c5 fi [] aNil:=λU U U U U U U U st h=>jv (h _ _ (st.le λU h=>⟨rfl,h⟩))
theorem c5.cons(h:aD fi e m)(hr:c5 fi rest mr)(he:∀env:aV,d7 (e::rest) env=(false,eval e env)::d7 rest env):c5 fi (e::rest) (Bp m mr):=λz U U U U U U pos st g=>
 f_ (h z st (g.seq λU U g U U st=>hr z pos st (g.seq λU U g U U st=>g _ _ (st.le λU h=>⟨.mk rfl h.2.1 h.1,h.2.2⟩)))) (he _)
end
section
variable{α β:Type}{R:α->β->Prop}
theorem kJ.elim{x:List α}{p:α->Prop}{q:List α->Prop}{G:List α->Prop}(h:kJ x p q)(k:∀a t,p a->q t->G (a::t)):G x:=h.el λe a b=>by rw[e];exact k _ _ a b
theorem dp.length:∀{y:List β} {x:List α},dp R x y->x.length=y.length:=λ{y}=>by
 induction y with
 |nil=>exact λe=>congrArg C1 e
 |cons b y ih=>exact λh=>kJ.elim (G:=λx=>x.length=_) h λU U U r=>congrArg nL (ih r)
theorem dp.get:∀{y:List β} {x:List α},dp R x y->∀(i:Nat) (b:β),y[i]? =some b->∃a,x[i]? =some a/\R a b:=λ{y}=>by
 induction y with
 |nil=>exact λU i b h=>nomatch h
 |cons c y ih=>
  exact λh i b hi=>kJ.elim (G:=λx=>∃a,x[i]? =some a/\R a b) h λa t p r=>by
   cases i with
   |zero=>cases hi;exact ⟨a,rfl,p⟩
   |succ i=>exact ih r i b hi
theorem dp.at{y:List β}{x:List α}(h:dp R x y){i:Nat}{a:α}(ha:x[i]? =some a):∃b,y[i]? =some b/\R a b:=by
 have hi:i<y.length:=h.length▸(aL.mp ha).1;obtain ⟨a',e,r⟩:=h.get i _ (bb hi)
 obtain rfl:=aF (ha.symm.trans e);exact ⟨_,bb hi,r⟩
theorem dp.append:∀{y:List β} {x x':List α} {y':List β},dp R x y->dp R x' y'->dp R (x++x') (y++y'):=λ{y}=>by
 induction y with
 |nil=>
  intro x x' y' h r;obtain rfl:=h;exact r
 |cons b y ih=>exact λ{x x' y'} h r=>kJ.elim (G:=λx=>dp R (x++x') _) h λU U p q=>.mk rfl p (ih q r)
theorem dp.drop:∀{y:List β} {x:List α} (n:Nat),dp R x y->dp R (x.drop n) (y.drop n):=λ{y}=>by
 induction y with
 |nil=>
  intro x n h;obtain rfl:=h;cases n<;>rfl
 |cons b y ih=>
  exact λn h=>by
   cases n with
   |zero=>exact h
   |succ n=>exact kJ.elim (G:=λx=>dp R (x.drop (n+1)) _) h λU U U q=>ih n q
theorem dp.take:∀{y:List β} {x:List α} (n:Nat),dp R x y->dp R (x.take n) (y.take n):=λ{y}=>by
 induction y with
 |nil=>
  intro x n h;obtain rfl:=h;cases n<;>rfl
 |cons b y ih=>
  exact λn h=>by
   cases n with
   |zero=>exact rfl
   |succ n=>exact kJ.elim (G:=λx=>dp R (x.take (n+1)) _) h λU U p q=>.mk rfl p (ih n q)
theorem dp.one{x:List α}{b:β}{G:List α->Prop}(h:dp R x [b])(k:∀a,R a b->G [a]):G x:=kJ.elim h λa t p q=>by cases q;exact k a p
theorem dp.two{x:List α}{b c:β}{G:List α->Prop}(h:dp R x [b,c])(k:∀a d,R a b->R d c->G [a,d]):G x:=kJ.elim h λa U p q=>dp.one (G:=λt=>G (a::t)) q λd r=>k a d p r
theorem dp.map{γ:Type}{f:γ->β}:∀{y:List γ} {x:List α},dp (λa c=>R a (f c)) x y->dp R x (y.map f):=λ{y}=>by
 induction y with
 |nil=>exact λh=>h
 |cons b y ih=>exact λh=>kJ.imp h (λU h=>h) λU h=>ih h
end
section
variable{B:Vw}{κ:View}{vs vm:List Value}{l l':List D}
theorem fI.length(h:fI B vs l):vs.length=l.length:=h.all.length
theorem o7.length{l:List V}(h:o7 κ vs l):vs.length=l.length:=h.all.length
theorem fI.append(h:fI B vs l)(h':fI B vm l'):fI B (vs++vm) (l++l'):=.of (h.all.append h'.all)
theorem o7.append{l l':List V}(h:o7 κ vs l)(h':o7 κ vm l'):o7 κ (vs++vm) (l++l'):=.of (h.all.append h'.all)
theorem fI.toV(h:fI κ.B vs l):o7 κ vs (l.map .d):=.of (dp.map h.all)
end
noncomputable def lim:Nat:=1000000
theorem fj{n:Nat}(h:n<=lim):n<=fe:=ac h (aa rfl)
theorem zM{n:Nat}(h:n<=lim):(n:Int)<2 ^ 63:=aP.mpr (bi h (aa rfl))
section
variable{α:Type}
noncomputable def D.jG(d:D)(k z:α):α:=D.casesOn (motive_1:=λU=>α) d k (λU=>z) (λU=>z) (λU=>z) (λU=>z) (λU=>z)
noncomputable def D.fu(d:D)(k:Int->α)(z:α):α:=D.casesOn (motive_1:=λU=>α) d z (λU=>z) k (λU=>z) (λU=>z) (λU=>z)
noncomputable def D.lC(d:D)(k:Bool->α)(z:α):α:=D.casesOn (motive_1:=λU=>α) d z k (λU=>z) (λU=>z) (λU=>z) (λU=>z)
noncomputable def D.onStr(d:D)(k:Tx->α)(z:α):α:=D.casesOn (motive_1:=λU=>α) d z (λU=>z) (λU=>z) k (λU=>z) (λU=>z)
noncomputable def D.jz(d:D)(k:List D->α)(z:α):α:=D.casesOn (motive_1:=λU=>α) d z (λU=>z) (λU=>z) (λU=>z) k (λU=>z)
noncomputable def D.c7(d:D)(k:List D->α)(z:α):α:=D.casesOn (motive_1:=λU=>α) d z (λU=>z) (λU=>z) (λU=>z) (λU=>z) k
noncomputable def V.yj(x:V)(k:D->α)(z:α):α:=V.casesOn (motive_1:=λU=>α) x k (λU=>z) (λU=>z) (λU=>z) (λU U=>z) (λU=>z) (λU=>z) (λU=>z)
noncomputable def V.jA(x:V)(k:Nat->α)(z:α):α:=V.casesOn (motive_1:=λU=>α) x (λU=>z) k (λU=>z) (λU=>z) (λU U=>z) (λU=>z) (λU=>z) (λU=>z)
noncomputable def V.Df(x:V)(k:List V->α)(z:α):α:=V.casesOn (motive_1:=λU=>α) x (λU=>z) (λU=>z) k (λU=>z) (λU U=>z) (λU=>z) (λU=>z) (λU=>z)
noncomputable def V.mG(x:V)(k:List (Tx×D)->α)(z:α):α:=V.casesOn (motive_1:=λU=>α) x (λU=>z) (λU=>z) (λU=>z) k (λU U=>z) (λU=>z) (λU=>z) (λU=>z)
noncomputable def V.eH(x:V)(k:Nat->List (Nat×D)->α)(z:α):α:=V.casesOn (motive_1:=λU=>α) x (λU=>z) (λU=>z) (λU=>z) (λU=>z) k (λU=>z) (λU=>z) (λU=>z)
noncomputable def V.HE(x:V)(k:List D->α)(z:α):α:=V.casesOn (motive_1:=λU=>α) x (λU=>z) (λU=>z) (λU=>z) (λU=>z) (λU U=>z) (λU=>z) k (λU=>z)
noncomputable def V.jG(x:V)(k z:α):α:=x.yj (λd=>d.jG k z) z
noncomputable def V.fu(x:V)(k:Int->α)(z:α):α:=x.yj (λd=>d.fu k z) z
noncomputable def V.lC(x:V)(k:Bool->α)(z:α):α:=x.yj (λd=>d.lC k z) z
noncomputable def V.onStr(x:V)(k:Tx->α)(z:α):α:=x.yj (λd=>d.onStr k z) z
noncomputable def V.jz(x:V)(k:List D->α)(z:α):α:=x.yj (λd=>d.jz k z) z
noncomputable def V.c7(x:V)(k:List D->α)(z:α):α:=x.yj (λd=>d.c7 k z) z
end
section
variable{γ:Type}{κ:View}{a:Value}{x:V}{z:M γ}{σ:Store}{K:γ->Store->Prop}{X:Int->Prop}{P:Prop}{G:Value->Prop}{h:Heap}
theorem dB.elim{B:Vw}{ty:String}{dk:Prop}{R:List Value->Prop}(q:dB B ty dk a R)(k:∀(b:Addr) (o:Obj) (vs:List Value) (n:Nat),B b=some o->o.cls= .type ty->o.data= .seq vs.toArray n->(dk->o.dict=none)->R vs->G (.ref b)):G a:=q.el λe b c d f r=>by rw[e];exact k _ _ _ _ b c d f r
theorem dB.tup{B:Vw}{dk:Prop}{R:List Value->Prop}(hB:Sub B h)(q:dB B "tuple" dk a R)(k:∀(b:Addr) (vs:List Value),h.IsTuple b vs.toArray->R vs->G (.ref b)):G a:=q.elim λb U vs U e f g U r=>k b vs ⟨_,hB _ _ e,f,_,g⟩ r
theorem dB.list{B:Vw}{dk:Prop}{R:List Value->Prop}(hB:Sub B h)(q:dB B "list" dk a R)(k:∀(b:Addr) (vs:List Value),h.IsList b vs.toArray->R vs->G (.ref b)):G a:=q.elim λb U vs U e f g U r=>k b vs ⟨_,hB _ _ e,f,_,g⟩ r
theorem RV.d?{f:D->M γ}(r:RV κ a x)(g:Go (x.yj f z σ) K X)(k:∀d,RD κ.B a d->Go (f d σ) K X->P)(k':Go (z σ) K X->P):P:=by
 cases x<;>first|exact k _ r g|exact k' g
theorem RV.n8{f:Int->M γ}(r:RV κ a x)(g:Go (x.fu f z σ) K X)(k:∀i t,Go (f i σ) K X->G (.int i t))(k':Go (z σ) K X->G a):G a:=r.d? g (λd r g=>by
 cases d with
 |int i=>obtain ⟨t,rfl⟩:=r;exact k i t g
 |_=>exact k' g) k'
theorem RV.mc{f:Tx->M γ}(r:RV κ a x)(g:Go (x.onStr f z σ) K X)(k:∀i t,Go (f i σ) K X->G (.str (S i) t))(k':Go (z σ) K X->G a):G a:=r.d? g (λd r g=>by
 cases d with
 |str i=>obtain ⟨t,rfl⟩:=r;exact k i t g
 |_=>exact k' g) k'
theorem RV.EI{f:Bool->M γ}(r:RV κ a x)(g:Go (x.lC f z σ) K X)(k:∀i,Go (f i σ) K X->G (.bool i))(k':Go (z σ) K X->G a):G a:=r.d? g (λd r g=>by
 cases d with
 |bool i=>cases r;exact k i g
 |_=>exact k' g) k'
theorem RV.Br{f:M γ}(r:RV κ a x)(g:Go (x.jG f z σ) K X)(k:Go (f σ) K X->G .none)(k':Go (z σ) K X->G a):G a:=r.d? g (λd r g=>by
 cases d with
 |none=>cases r;exact k g
 |_=>exact k' g) k'
theorem RV.wd{f:List D->M γ}(r:RV κ a x)(g:Go (x.jz f z σ) K X)(k:∀l,RD κ.B a (.tup l)->Go (f l σ) K X->P)(k':Go (z σ) K X->P):P:=r.d? g (λd r g=>by
 cases d with
 |tup i=>exact k i r g
 |_=>exact k' g) k'
theorem RV.hZ{f:List D->M γ}(r:RV κ a x)(g:Go (x.c7 f z σ) K X)(k:∀l,RD κ.B a (.list l)->Go (f l σ) K X->P)(k':Go (z σ) K X->P):P:=r.d? g (λd r g=>by
 cases d with
 |list i=>exact k i r g
 |_=>exact k' g) k'
theorem RV.tZ{f:Nat->M γ}(r:RV κ a x)(g:Go (x.jA f z σ) K X)(k:∀i,jy κ.ι a i->Go (f i σ) K X->P)(k':Go (z σ) K X->P):P:=by
 cases x<;>first|exact k _ r g|exact k' g
theorem RV.Sd{f:List V->M γ}(r:RV κ a x)(g:Go (x.Df f z σ) K X)(k:∀l,RV κ a (.tup l)->Go (f l σ) K X->P)(k':Go (z σ) K X->P):P:=by
 cases x<;>first|exact k _ r g|exact k' g
theorem RV.Bs{f:List (Tx×D)->M γ}(r:RV κ a x)(g:Go (x.mG f z σ) K X)(k:∀l,qY κ.P κ.B a l->Go (f l σ) K X->P)(k':Go (z σ) K X->P):P:=by
 cases x<;>first|exact k _ r g|exact k' g
theorem RV.wg{f:Nat->List (Nat×D)->M γ}(r:RV κ a x)(g:Go (x.eH f z σ) K X)(k:∀c l,qZ κ.B a c l->Go (f c l σ) K X->P)(k':Go (z σ) K X->P):P:=by
 cases x<;>first|exact k _ _ r g|exact k' g
theorem RV.Se{f:List D->M γ}(r:RV κ a x)(g:Go (x.HE f z σ) K X)(k:∀l,dB κ.B "list" False a (λvs=>fI κ.B vs l)->Go (f l σ) K X->P)(k':Go (z σ) K X->P):P:=by
 cases x<;>first|exact k _ r g|exact k' g
theorem Go.ite{p:Prop} [Decidable p]{m:M γ}(g:Go ((if p then m else M.no) σ) K X):p/\Go (m σ) K X:=by
 by_cases q:p
 ·rw[if_pos q] at g;exact ⟨q,g⟩
 ·rw[if_neg q] at g;exact g.elim
theorem Go.OW{p:Prop} [Decidable p]{m:Res γ}(g:Go (if p then m else .stuck) K X):p/\Go m K X:=by
 by_cases q:p
 ·rw[if_pos q] at g;exact ⟨q,g⟩
 ·rw[if_neg q] at g;exact g.elim
theorem Go.opt{o:Option γ}(g:Go (M.opt o σ) K X):∃b,o=some b/\K b σ:=by
 cases o with
 |none=>exact g.elim
 |some b=>exact ⟨b,rfl,g⟩
end
noncomputable def lD:List V->Option (List D)
 |[]=>some []
 |v::r=>v.yj (λx=>(lD r).map (x::·)) none
noncomputable def O.c7{α:Type}(o:Option O)(k:List V->α)(z:α):α:=o.elim z λo=>O.casesOn (motive:=λU=>α) o k (λU=>z) (λU U=>z) z
noncomputable def O.mG{α:Type}(o:Option O)(k:List (Tx×V)->α)(z:α):α:=o.elim z λo=>O.casesOn (motive:=λU=>α) o (λU=>z) k (λU U=>z) z
noncomputable def O.eH{α:Type}(o:Option O)(k:Nat->List (Nat×V)->α)(z:α):α:=o.elim z λo=>O.casesOn (motive:=λU=>α) o (λU=>z) (λU=>z) k z
noncomputable def ec(σ:Store)(i:Nat):Option (List V):=O.c7 σ[i]? some none
noncomputable def ofList(σ:Store)(i:Nat):Option (List D):=O.c7 σ[i]? lD none
noncomputable def sF{α β:Type}(o:Option α)(k:α->M β):M β:=o.elim M.no k
noncomputable def c7{β:Type}(i:Nat)(k:List D->M β):M β:=λσ=>sF (ofList σ i) k σ
noncomputable def qu{β:Type}(i:Nat)(k:List V->M β):M β:=λσ=>sF (ec σ i) k σ
theorem Go.sF{α γ:Type}{o:Option α}{k:α->M γ}{σ:Store}{K:γ->Store->Prop}{X:Int->Prop}(g:Go (sF o k σ) K X):∃b,o=some b/\Go (k b σ) K X:=by
 cases o with
 |none=>exact g.elim
 |some b=>exact ⟨b,rfl,g⟩
theorem O.n9{o:Option O}{α:Type}{k:List V->Option α}{b:α}(h:O.c7 o k none=some b):∃l,o=some (.list l)/\k l=some b:=by
 cases o with
 |none=>cases h
 |some o=>cases o with
  |list l=>exact ⟨l,rfl,h⟩
  |_=>cases h
theorem o7.lD{κ:View}:∀{l:List V} {vs:List Value} {ds:List D},lD l=some ds->o7 κ vs l->fI κ.B vs ds:=λ{l}=>by
 induction l with
 |nil=>
  intro vs ds h r;cases h;exact r
 |cons v l ih=>
  exact λh r=>by
   cases v with
   |d x=>
    obtain ⟨ds',h',rfl⟩:=a_.mp (show (Internal.lD l).map (x::·)=some _ from h)
    exact kJ.imp r (λU p=>p) λU p=>ih h' p
   |_=>cases h
section
variable{c:Cx}{κ:View}{ρ:Env}{σ:Store}{s:aI}{a:Value}{G:Value->Prop}
theorem St.listV(x:St c κ ρ σ s){i:Nat}{l:List V}(h:ec σ i=some l)(r:jy κ.ι a i)(k:∀b vs n,κ.ι[i]? =some [b]->s.heap.get? b=some {cls:=.type "list",data:=.seq vs.toArray n}->o7 κ vs l->G (.ref b)):G a:=by
 obtain ⟨l',h1,h2⟩:=O.n9 h;obtain rfl:=aF h2;refine r.el λe ha=>(x.store i _ h1).el λhb ro=>?_
 obtain rfl:=aF (ha.symm.trans hb);refine ro.el λe2 hg hr=>?_
 obtain ⟨rfl,rfl⟩:=c6 e2;simp only [e];exact k _ _ _ hb hg hr
theorem HF{i:Nat}{l:List D}(h:ofList σ i=some l):∃l',ec σ i=some l'/\lD l'=some l:=(O.n9 h).elim λl' z0=>z0.elim λh1 h2=>⟨l',by unfold ec;rw[h1];rfl,h2⟩
theorem St.HG(x:St c κ ρ σ s){i:Nat}{l:List D}(h:ofList σ i=some l)(r:jy κ.ι a i)(k:∀b vs,s.heap.IsList b vs.toArray->fI κ.B vs l->G (.ref b)):G a:=(HF h).elim λl' z0=>z0.elim λh1 h2=>x.listV h1 r λb vs n U hg hr=>k b vs ⟨_,hg,rfl,_,rfl⟩ (hr.lD h2)
theorem St.pK(x:St c κ ρ σ s)(ok:c.Ok){ty:String}{dk:Prop}{tk:Tok}{vs:List Value}{R:Vw->List Value->Prop}(hR:∀B',Le κ.B B'->R B' vs):
  κ.le (κ.add s.heap.objs.size {cls:=.type ty,data:=.seq vs.toArray})/\St c (κ.add s.heap.objs.size {cls:=.type ty,data:=.seq vs.toArray}) ρ σ {s with heap:=s.heap.push {cls:=.type ty,data:=.seq vs.toArray},toks:=tk}/\
   dB (κ.add s.heap.objs.size {cls:=.type ty,data:=.seq vs.toArray}).B ty dk (.ref s.heap.objs.size) (R (κ.add s.heap.objs.size {cls:=.type ty,data:=.seq vs.toArray}).B):=
 ⟨(x.fresh ok (tk:=tk) (λU U e=>az _ e) (ax _) (bC s.heap rfl)).1,(x.fresh ok (λU U e=>az _ e) (ax _) (bC s.heap rfl)).2,.mk rfl (gz _ _ _) rfl rfl (λU=>rfl) (hR _ (x.fresh ok (tk:=tk) (λU U e=>az _ e) (ax _) (bC s.heap rfl)).1.B)⟩
end
mutual
noncomputable def t7:D->D->Bool
 | .none,y=>y.jG true false
 | .bool a,y=>y.lC (λb=>a==b) (y.fu (λb=>(if a then (1:Int) else 0)==b) false)
 | .int a,y=>y.fu (λb=>a==b) (y.lC (λb=>a==(if b then (1:Int) else 0)) false)
 | .str a,y=>y.onStr (λb=>a==b) false
 | .tup a,y=>y.jz (λb=>sI a b) false
 | .list a,y=>y.c7 (λb=>sI a b) false
noncomputable def sI:List D->List D->Bool
 |[],y=>y.isEmpty
 |a::x,y=>y.casesOn (motive:=λU=>Bool) false λb y=>t7 a b&&sI x y
end
mutual
noncomputable def pL:D->Nat
 | .none=>0
 | .bool _=>0
 | .int _=>0
 | .str _=>0
 | .tup l=>kU l+1
 | .list l=>kU l+1
noncomputable def kU:List D->Nat
 |[]=>0
 |a::x=>max (pL a) (kU x)
end
theorem Bt(x:D):t7 x x=true:=@D.rec (λx=>t7 x x=true) (λl=>sI l l=true) rfl (λU=>beq_self_eq_true _) (λU=>beq_self_eq_true _) (λU=>beq_self_eq_true _) (λU h=>h) (λU h=>h) rfl
 (λU U h1 h2=>aj.mpr ⟨h1,h2⟩) x
theorem toList_inj{α:Type}{a b:List α}(h:a.toArray=b.toArray):a=b:=congrArg Array.toList h
theorem EJ(h:dC a= .ref b):a=b:=by cases h;rfl
theorem zN{x y:List Value}{m n:Nat}(h:Data.seq x.toArray m= .seq y.toArray n):x=y:=toList_inj (by injection h)
theorem dB.same{B:Vw}{t t':String}{d d':Prop}{R R':List Value->Prop}(h:dB B t d v R)(h':dB B t' d' v R'):t=t'/\∃vs,R vs/\R' vs:=by
 refine h.el λe1 e2 e3 e4 U r=>h'.el λf1 f2 f3 f4 U r'=>?_
 obtain rfl:=EJ (e1.symm.trans f1);obtain rfl:=aF (e2.symm.trans f2);obtain rfl:=zN (e4.symm.trans f4);have:=e3.symm.trans f3;exact ⟨by injection this,_,r,r'⟩
theorem wj{d:Prop}(h:dB B t d v R):∃a,v= .ref a:=by cases h with|mk e=>exact ⟨_,e⟩
theorem wl(h:vs=[])(k:fI B vs m):[]=m:=by
 cases m with
 |nil=>rfl
 |cons b m=>cases k with|mk e=>cases h.symm.trans e
theorem yO(h:fI B vs (a::l))(k:fI B vs m)(i1:∀{y:D} {v:Value},RD B v a->RD B v y->a=y)(i2:∀{m:List D} {vs:List Value},fI B vs l->fI B vs m->l=m):a::l=m:=by
 refine h.el λe p q=>?_
 cases m with
 |nil=>cases e.symm.trans k
 |cons b m=>cases k with|mk e' p' q'=>cases e.symm.trans e';rw[i1 p p',i2 q q']
section
theorem Xu{p:Prop}(h:v=a)(k:v=b)(f:a=b->p):p:=f (h.symm.trans k)
theorem KU{α:Type}{p:Prop}{b:α->Value}(h:v=a)(k:∃t,v=b t)(f:∀t,a=b t->p):p:=k.elim λt k=>f t (h.symm.trans k)
theorem Nb{p:Prop}{d:Prop}(h:v=a)(k:dB B t d v R)(f:∀b,a= .ref b->p):p:=by cases k with|mk e=>exact f _ (h.symm.trans e)
theorem RD.HH(x:D):∀{y:D} {v:Value},RD B v x->RD B v y->x=y:=
 @D.rec (λx=>∀{y v},RD B v x->RD B v y->x=y) (λl=>∀{m vs},fI B vs l->fI B vs m->l=m)
  (λ{y v} h=>by cases y<;>first|exact λU=>rfl|exact λk=>Xu h k nofun|exact λk=>KU h k nofun|exact λk=>Nb h k nofun)
  (λb {y v} h=>by cases y<;>first|exact λk=>Xu h k λe=>by cases e<;>rfl|exact λk=>KU h k nofun|exact λk=>Nb h k nofun)
  (λi {y v} ⟨t,h⟩=>by cases y<;>first|exact λk=>Xu h k nofun|exact λk=>KU h k λU e=>by cases e<;>rfl|exact λk=>Nb h k nofun)
  (λi {y v} ⟨t,h⟩=>by cases y<;>first|exact λk=>Xu h k nofun|exact λk=>KU h k λU e=>by cases e<;>rfl|exact λk=>Nb h k nofun)
  (λl ih {y v} h=>by cases y<;>first|exact λk=>Nb k h nofun|exact λ⟨_,k⟩=>Nb k h nofun|exact λk=>(dB.same h k).2.elim λU r=>congrArg D.tup (ih r.1 r.2)|exact λk=>absurd (dB.same h k).1 (nofun))
  (λl ih {y v} h=>by cases y<;>first|exact λk=>Nb k h nofun|exact λ⟨_,k⟩=>Nb k h nofun|exact λk=>(dB.same h k).2.elim λU r=>congrArg D.list (ih r.1 r.2)|exact λk=>absurd (dB.same h k).1 (nofun))
  (λ{m vs} h k=>wl h k)
  (λa l i1 i2 {m vs} h k=>yO h k i1 i2) x
theorem fI.HH(h:fI B vs l)(k:fI B vs m):l=m:=by
 induction l generalizing m vs with
 |nil=>exact wl h k
 |cons a l ih=>exact yO h k (RD.HH a) ih
end
noncomputable def pairAt(x y:List D)(j:Nat):Bool:=x[j]?.elim false λa=>y[j]?.elim false λb=>t7 a b
theorem sJ:∀x y:List D,((d3 (min x.length y.length)).all (pairAt x y)&&x.length==y.length)=sI x y:=λx=>by
 induction x with
 |nil=>intro y;cases y<;>rfl
 |cons a x ih=>
  intro y;cases y with
  |nil=>rfl
  |cons b y=>
   show ((d3 (min (x.length+1) (y.length+1))).all (pairAt (a::x) (b::y))&&(x.length+1)==(y.length+1))=(t7 a b&&sI x y);simp only [(eA .. :min (x.length+1) (y.length+1)=min x.length y.length+1),oH,mY,tA,<-ih y,Bool.and_assoc]
   congr 2
   exact (gd.mpr (by rw[beq_iff_eq,beq_iff_eq];exact Nat.succ_inj))
theorem uR(h:¬x.length=y.length):sI x y=false:=by rw[<-sJ,beq_eq_false_iff_ne.mpr h,jk]
theorem HI:∀{j:Nat},l[j]? =some x->pL x<=kU l:=by
 induction l with
 |nil=>exact λh=>nomatch h
 |cons a l ih=>
  exact λ{j} h=>by
   cases j with
   |zero=>cases h;exact Nat.le_max_left _ _
   |succ j=>exact ac (ih h) (Nat.le_max_right _ _)
inductive Is(B:Vw)(h:Heap):Value->D->Prop
 |none:Is B h .none .none
 |bool (b:Bool):Is B h (.bool b) (.bool b)
 |int (i:Int) (t:Tok):Is B h (.int i t) (.int i)
 |str (l:Tx) (t:Tok):Is B h (.str (S l) t) (.str l)
 |tup {a:Addr} {vs:List Value} {l:List D}:h.IsTuple a vs.toArray->fI B vs l->Is B h (.ref a) (.tup l)
 |list {a:Addr} {vs:List Value} {l:List D}:h.IsList a vs.toArray->fI B vs l->Is B h (.ref a) (.list l)
section
variable{A:dX}
theorem RD.is(hB:Sub B h)(x:D)(r:RD B v x):Is B h v x:=by
 cases x with
 |none=>cases r;exact .none
 |bool b=>cases r;exact .bool b
 |int i=>obtain ⟨t,rfl⟩:=r;exact .int i t
 |str l=>obtain ⟨t,rfl⟩:=r;exact .str l t
 |tup l=>exact dB.tup (G:=λv=>Is B h v (.tup l)) hB r λU U h r=>.tup h r
 |list l=>exact dB.list (G:=λv=>Is B h v (.list l)) hB r λU U h r=>.list h r
theorem vT(a b:Tx):(S a==S b)=(a==b):=gd.mpr (by rw[beq_iff_eq,beq_iff_eq];exact ⟨EC,congrArg S⟩)
noncomputable def zO(B:Vw)(s:aI)(n:Nat):Prop:=∀(A:dX) (x y:D) (a b:Value),min (pL x) (pL y)<n->A.units+n<=ko->RD B a x->RD B b y->EqAt A s a b (t7 x y)
theorem kV(h:a+(n+1)<=b):a<b:=bk (c8 (ak a n)) h
theorem sL(ih:zO B s n)(hm:min (kU p) (kU q)<n)(hu:A.units+(n+1)<=ko)(r:fI B vs p)(r':fI B vm q)(j:Nat)(h1:j<vs.toArray.size)(h2:j<vm.toArray.size):EqAt A.in1 s vs.toArray[j] vm.toArray[j] (pairAt p q j):=by
 refine (r.all.at (bb h1)).elim λx z0=>z0.elim λhx rx=>(r'.all.at (bb h2)).elim λy z0=>z0.elim λhy ry=>?_
 simp only [(by unfold pairAt;rw[hx,hy];rfl:pairAt p q j=t7 x y)]
 exact ih A.in1 x y _ _ (bi (Nat.le_min.mpr ⟨ac (Nat.min_le_left _ _) (HI hx),ac (gY _ _) (HI hy)⟩) hm) (ac (aW (bD _ _ _)) hu) rx ry
theorem EK(ih:zO B s n)(hm:min (kU p) (kU q)<n)(hu:A.units+(n+1)<=ko)(h:s.heap.IsTuple la vs.toArray)(r:fI B vs p)(h':s.heap.IsTuple lb vm.toArray)(r':fI B vm q):RcAt A s (.ref la) (.ref lb) (sI p q):=by
 have k:=RcAt.tuples h h' (kV hu) (sL ih hm hu r r');simp only [aR,aR,r.length,r'.length,sJ] at k
 exact k
theorem KY(ih:zO B s n)(hm:min (kU p) (kU q)<n)(hu:A.units+(n+1)<=ko)(h:s.heap.IsTuple la vs.toArray)(r:fI B vs p)(h':s.heap.IsTuple lb vm.toArray)(r':fI B vm q):cN A s (.ref la) (.ref lb) (!sI p q):=by
 have k:=cN.tuples h h' (kV hu) (sL ih hm hu r r');simp only [aR,aR,r.length,r'.length,sJ] at k
 exact k
theorem yP(h:p.length=q.length):(d3 p.length).all (pairAt p q)=sI p q:=by
 have:=sJ p q
 rwa [<-h,Nat.min_self,beq_self_eq_true,rn] at this
theorem Bu(ih:zO B s n)(hm:min (kU p) (kU q)<n)(hu:A.units+(n+1)<=ko)(h:s.heap.IsList la vs.toArray)(r:fI B vs p)(h':s.heap.IsList lb vm.toArray)(r':fI B vm q):RcAt A s (.ref la) (.ref lb) (sI p q):=by
 by_cases e:vs.length=vm.length
 ·have k:=RcAt.lists h h' e (kV hu) (sL ih hm hu r r');rw[aR,r.length,yP (by rw[<-r.length,<-r'.length];exact e)] at k
  exact k
 ·rw[uR (by rw[<-r.length,<-r'.length];exact e)]
  exact RcAt.lists_lengths h h' (bne_iff_ne.mpr e) (kV hu)
theorem HJ(ih:zO B s n)(hm:min (kU p) (kU q)<n)(hu:A.units+(n+1)<=ko)(h:s.heap.IsList la vs.toArray)(r:fI B vs p)(h':s.heap.IsList lb vm.toArray)(r':fI B vm q):cN A s (.ref la) (.ref lb) (!sI p q):=by
 by_cases e:vs.length=vm.length
 ·have k:=cN.lists h h' e (kV hu) (sL ih hm hu r r');rw[aR,r.length,yP (by rw[<-r.length,<-r'.length];exact e)] at k
  exact k
 ·rw[uR (by rw[<-r.length,<-r'.length];exact e)]
  exact cN.lists_lengths h h' (bne_iff_ne.mpr e) (kV hu)
theorem t8(h:EqAt A s y x b)(e:b=b'):EqAt A s y x b':=e▸h
theorem F6(h:RcAt A s y x b)(e:b=b'):RcAt A s y x b':=e▸h
theorem F7(h:cN A s y x b)(e:b=b'):cN A s y x b':=e▸h
theorem F8(ih:zO B s n)(hm:min (kU p) (kU q)<n)(hu:A.units+(n+1)<=ko)(h:s.heap.IsTuple la vs.toArray)(r:fI B vs p)(h':s.heap.IsTuple lb vm.toArray)(r':fI B vm q):EqAt A s (.ref la) (.ref lb) (sI p q):=by
 by_cases Hn:la=lb
 ·subst Hn;obtain ⟨o,e1,e2,m,e3⟩:=h;obtain ⟨o',f1,f2,m',f3⟩:=h';obtain rfl:=aF (e1.symm.trans f1);obtain rfl:=zN (e3.symm.trans f3);obtain rfl:=r.HH r';exact t8 (zA _) (Bt (.tup p)).symm
 ·exact AZ Hn (EK ih hm hu h r h' r')
theorem Dg(ih:zO B s n)(hm:min (kU p) (kU q)<n)(hu:A.units+(n+1)<=ko)(h:s.heap.IsList la vs.toArray)(r:fI B vs p)(h':s.heap.IsList lb vm.toArray)(r':fI B vm q):EqAt A s (.ref la) (.ref lb) (sI p q):=by
 by_cases Hn:la=lb
 ·subst Hn;obtain ⟨o,e1,e2,m,e3⟩:=h;obtain ⟨o',f1,f2,m',f3⟩:=h';obtain rfl:=aF (e1.symm.trans f1);obtain rfl:=zN (e3.symm.trans f3);obtain rfl:=r.HH r';exact t8 (zA _) (Bt (.list p)).symm
 ·exact AZ Hn (Bu ih hm hu h r h' r')
theorem KZ(h_:zO B s n)(hu:A.units+(n+1)<=ko)(qa:Is B s.heap a x)(qb:Is B s.heap b y)(hm:min (pL x) (pL y)<n+1):EqAt A s a b (t7 x y):=by
 have u:A.units<ko:=kV hu
 induction qa with
 |none=>(induction qb with
  |none=>exact zA _
  |bool kb=>exact EqAt.none_bool _
  |int ki kt=>exact EqAt.none_int _ _
  |str kl kt=>exact EqAt.none_str _ _
  |tup kh kr=>exact EqAt.none_tuple kh u
  |list kh kr=>exact EqAt.none_list kh u)
 |bool ib=>(induction qb with
  |none=>exact EqAt.bool_none _
  |bool kb=>exact EqAt.bool_bool _ _
  |int ki kt=>exact EqAt.bool_int _ _ _
  |str kl kt=>exact EqAt.bool_str _ _ _
  |tup kh kr=>exact EqAt.bool_tuple _ kh u
  |list kh kr=>exact EqAt.bool_list _ kh u)
 |int ii it=>(induction qb with
  |none=>exact EqAt.int_none _ _
  |bool kb=>exact EqAt.int_bool _ _ _
  |int ki kt=>exact EqAt.int_int _ _ _ _
  |str kl kt=>exact EqAt.int_str _ _ _ _
  |tup kh kr=>exact EqAt.int_tuple _ _ kh u
  |list kh kr=>exact EqAt.int_list _ _ kh u)
 |str il it=>(induction qb with
  |none=>exact EqAt.str_none _ _
  |bool kb=>exact EqAt.str_bool _ _ _
  |int ki kt=>exact EqAt.str_int _ _ _ _
  |str kl kt=>exact t8 (EqAt.str_str _ _ _ _) (vT _ _)
  |tup kh kr=>exact EqAt.str_tuple _ _ kh u
  |list kh kr=>exact EqAt.str_list _ _ kh u)
 |tup ih ir=>(induction qb with
  |none=>exact EqAt.tuple_none ih u
  |bool kb=>exact EqAt.tuple_bool _ ih u
  |int ki kt=>exact EqAt.tuple_int _ _ ih u
  |str kl kt=>exact EqAt.tuple_str _ _ ih u
  |tup kh kr=>exact F8 h_ (jl (bi (aW (eA ..).symm) hm)) hu ih ir kh kr
  |list kh kr=>exact EqAt.tuple_list ih kh u)
 |list ih ir=>(induction qb with
  |none=>exact EqAt.list_none ih u
  |bool kb=>exact EqAt.list_bool _ ih u
  |int ki kt=>exact EqAt.list_int _ _ ih u
  |str kl kt=>exact EqAt.list_str _ _ ih u
  |tup kh kr=>exact EqAt.list_tuple ih kh u
  |list kh kr=>exact Dg h_ (jl (bi (aW (eA ..).symm) hm)) hu ih ir kh kr)
theorem HK(hB:Sub B s.heap)(n:Nat):zO B s n:=by
 induction n with
 |zero=>exact λU U U U U h=>absurd h (vH _)
 |succ n ih=>exact λA x y a b hm hu ra rb=>KZ ih hu (RD.is hB x ra) (RD.is hB y rb) hm
theorem Yf(hB:Sub B s.heap)(hu:A.units+40<=ko)(qa:Is B s.heap a x)(qb:Is B s.heap b y)(hm:min (pL x) (pL y)<=30):RcAt A s a b (t7 x y):=by
 have u:A.units<ko:=kV hu
 induction qa with
 |none=>(induction qb with
  |none=>exact RcAt.none_none
  |bool kb=>exact RcAt.none_bool _
  |int ki kt=>exact RcAt.none_int _ _
  |str kl kt=>exact RcAt.none_str _ _
  |tup kh kr=>exact RcAt.none_tuple kh u
  |list kh kr=>exact RcAt.none_list kh u)
 |bool ib=>(induction qb with
  |none=>exact RcAt.bool_none _
  |bool kb=>exact RcAt.bool_bool _ _
  |int ki kt=>exact RcAt.bool_int _ _ _
  |str kl kt=>exact RcAt.bool_str _ _ _
  |tup kh kr=>exact RcAt.bool_tuple _ kh u
  |list kh kr=>exact RcAt.bool_list _ kh u)
 |int ii it=>(induction qb with
  |none=>exact RcAt.int_none _ _
  |bool kb=>exact RcAt.int_bool _ _ _
  |int ki kt=>exact RcAt.int_int _ _ _ _
  |str kl kt=>exact RcAt.int_str _ _ _ _
  |tup kh kr=>exact RcAt.int_tuple _ _ kh u
  |list kh kr=>exact RcAt.int_list _ _ kh u)
 |str il it=>(induction qb with
  |none=>exact RcAt.str_none _ _
  |bool kb=>exact RcAt.str_bool _ _ _
  |int ki kt=>exact RcAt.str_int _ _ _ _
  |str kl kt=>exact F6 (RcAt.str_str _ _ _ _) (vT _ _)
  |tup kh kr=>exact RcAt.str_tuple _ _ kh u
  |list kh kr=>exact RcAt.str_list _ _ kh u)
 |tup ih ir=>(induction qb with
  |none=>exact RcAt.tuple_none ih u
  |bool kb=>exact RcAt.tuple_bool _ ih u
  |int ki kt=>exact RcAt.tuple_int _ _ ih u
  |str kl kt=>exact RcAt.tuple_str _ _ ih u
  |tup kh kr=>exact EK (HK hB 30) (bk (cy _) (ac (aW (eA ..).symm) hm)) (ac (aK (by decide) _) hu) ih ir kh kr
  |list kh kr=>exact RcAt.tuple_list ih kh u)
 |list ih ir=>(induction qb with
  |none=>exact RcAt.list_none ih u
  |bool kb=>exact RcAt.list_bool _ ih u
  |int ki kt=>exact RcAt.list_int _ _ ih u
  |str kl kt=>exact RcAt.list_str _ _ ih u
  |tup kh kr=>exact RcAt.list_tuple ih kh u
  |list kh kr=>exact Bu (HK hB 30) (bk (cy _) (ac (aW (eA ..).symm) hm)) (ac (aK (by decide) _) hu) ih ir kh kr)
theorem Si(hB:Sub B s.heap)(hu:A.units+40<=ko)(qa:Is B s.heap a x)(qb:Is B s.heap b y)(hm:min (pL x) (pL y)<=30):cN A s a b (!t7 x y):=by
 have u:A.units<ko:=kV hu
 induction qa with
 |none=>(induction qb with
  |none=>exact cN.none_none
  |bool kb=>exact cN.none_bool _
  |int ki kt=>exact cN.none_int _ _
  |str kl kt=>exact cN.none_str _ _
  |tup kh kr=>exact cN.none_tuple kh u
  |list kh kr=>exact cN.none_list kh u)
 |bool ib=>(induction qb with
  |none=>exact cN.bool_none _
  |bool kb=>exact cN.bool_bool _ _
  |int ki kt=>exact cN.bool_int _ _ _
  |str kl kt=>exact cN.bool_str _ _ _
  |tup kh kr=>exact cN.bool_tuple _ kh u
  |list kh kr=>exact cN.bool_list _ kh u)
 |int ii it=>(induction qb with
  |none=>exact cN.int_none _ _
  |bool kb=>exact cN.int_bool _ _ _
  |int ki kt=>exact cN.int_int _ _ _ _
  |str kl kt=>exact cN.int_str _ _ _ _
  |tup kh kr=>exact cN.int_tuple _ _ kh u
  |list kh kr=>exact cN.int_list _ _ kh u)
 |str il it=>(induction qb with
  |none=>exact cN.str_none _ _
  |bool kb=>exact cN.str_bool _ _ _
  |int ki kt=>exact cN.str_int _ _ _ _
  |str kl kt=>exact F7 (cN.str_str _ _ _ _) (congrArg not (vT _ _))
  |tup kh kr=>exact cN.str_tuple _ _ kh u
  |list kh kr=>exact cN.str_list _ _ kh u)
 |tup ih ir=>(induction qb with
  |none=>exact cN.tuple_none ih u
  |bool kb=>exact cN.tuple_bool _ ih u
  |int ki kt=>exact cN.tuple_int _ _ ih u
  |str kl kt=>exact cN.tuple_str _ _ ih u
  |tup kh kr=>exact KY (HK hB 30) (bk (cy _) (ac (aW (eA ..).symm) hm)) (ac (aK (by decide) _) hu) ih ir kh kr
  |list kh kr=>exact cN.tuple_list ih kh u)
 |list ih ir=>(induction qb with
  |none=>exact cN.list_none ih u
  |bool kb=>exact cN.list_bool _ ih u
  |int ki kt=>exact cN.list_int _ _ ih u
  |str kl kt=>exact cN.list_str _ _ ih u
  |tup kh kr=>exact cN.list_tuple ih kh u
  |list kh kr=>exact HJ (HK hB 30) (bk (cy _) (ac (aW (eA ..).symm) hm)) (ac (aK (by decide) _) hu) ih ir kh kr)
end
theorem sM(a b:Tx):S (a++b)=S a++S b:=congrArg Str.mk (hJ ..).symm
section
variable{c:Cx}{τ:cO}{ρ:Env}{σ:Store}{s:aI}{a b d:Value}{x y w:V}{P:Prop}
theorem dY.one(n:dY c (τ.v a x) ρ σ s)(k:∀κ,St c κ ρ σ s->RV κ a x->τ.p κ->P):P:=by cases n with|mk st h=>exact k _ st h.1 h.2
theorem dY.two(n:dY c ((τ.v a x).v b y) ρ σ s)(k:∀κ,St c κ ρ σ s->RV κ a x->RV κ b y->τ.p κ->P):P:=by cases n with|mk st h=>exact k _ st h.2.1 h.1 h.2.2
end
section
variable{prog:lr}{w:va}{A:dX}{E:Value->aI->Prop}{s:aI}
theorem qv{h:Heap}{a:Addr}{vs:Array Value}{t:String}{P:Prop}(ht:∃o,h.get? a=some o/\o.cls= .type t/\∃n,o.data= .seq vs n)(k:∀n dd sl,h.get? a=some ⟨.type t,dd,.seq vs n,sl⟩->P):P:=by
 obtain ⟨⟨k',dd,data,sl⟩,ho,hc,n,hd⟩:=ht;obtain rfl:=hc;obtain rfl:=hd;exact k _ _ _ ho
theorem wm{α:Type}(l:List α):l=[]\/¬l.toArray.isEmpty=true:=by
 cases l with
 |nil=>exact .inl rfl
 |cons a l=>exact .inr nofun
theorem Dh{t b:Addr}{vs ws:List Value}{Q:Value->aI->Prop}(ht:s.heap.IsTuple t vs.toArray)(hb:s.heap.IsTuple b ws.toArray)
  (h0:vs=[]->Q (.ref b) s) (h1:ws=[]->Q (.ref t) s) (h2:Q (.ref s.heap.objs.size) {s with heap:=s.heap.push {cls:=.type "tuple",data:=.seq (vs++ws).toArray}})
  (wo:vs.length+ws.length<=fe):aO (bS prog w) A (dH .Add (.ref t) (.ref b)) Q E s:=by
 refine cps λP9 k9=>?_
 rw[<-hJ] at h2;refine qv ht λn dd sl ho=>qv hb λn2 Sj Sk HL=>?_
 rcases wm vs with hv|hv
 ·exact k9 (oZ ⟨_,ho,rfl⟩ ⟨_,HL,rfl⟩ nW rB jm i6 (ip _ _) (tuple_addW0 t b vs.toArray ws.toArray n n2 dd Sj sl Sk (by rw[hv];rfl)) ⟨ho,HL,h0 hv⟩)
 ·rcases wm ws with hw|hw
  ·exact k9 (oZ ⟨_,ho,rfl⟩ ⟨_,HL,rfl⟩ nW rB jm i6 (ip _ _) (tuple_addW1 t b vs.toArray ws.toArray n n2 dd Sj sl Sk hv (by rw[hw];rfl)) ⟨ho,HL,h1 hw⟩)
  ·refine k9 ?_;exact oZ ⟨_,ho,rfl⟩ ⟨_,HL,rfl⟩ nW rB jm i6 (ip _ _)
    (tuple_addW2 t b vs.toArray ws.toArray n n2 dd Sj sl Sk hv hw wo) ⟨ho,HL,h2⟩
theorem vU{t b:Addr}{vs ws:List Value}{Q:Value->aI->Prop}(ht:s.heap.IsList t vs.toArray)(hb:s.heap.IsList b ws.toArray)(h2:Q (.ref s.heap.objs.size) {s with heap:=s.heap.push {cls:=.type "list",data:=.seq (vs++ws).toArray}})
  (wo:vs.length+ws.length<=fe):aO (bS prog w) A (dH .Add (.ref t) (.ref b)) Q E s:=by
 rw[<-hJ] at h2;exact qv ht λn dd sl ho=>qv hb λn2 Sj Sk HL=>oZ ⟨_,ho,rfl⟩ ⟨_,HL,rfl⟩ noFill_list_add seq_list_add PySem.F.slot_list_add PySem.F.entry_list_add (PySem.F.args_list_add_2 _ _) (list_addW t b vs.toArray ws.toArray n n2 dd Sj sl Sk wo) ⟨ho,HL,h2⟩
end
noncomputable def vAdd(x y:V):M V:=
 x.fu (λa=>y.fu (λb=>M.ret (.d (.int (a+b)))) M.no)<|
 x.onStr (λa=>y.onStr (λb=>if a.length+b.length<=lim then M.ret (.d (.str (a++b))) else M.no) M.no)<|
 x.jz (λa=>y.jz (λb=>if a.length+b.length<=lim then M.ret (.d (.tup (a++b))) else M.no) M.no)<|
 x.c7 (λa=>y.c7 (λb=>if a.length+b.length<=lim then M.ret (.d (.list (a++b))) else M.no) M.no)<|
 x.jA (λi=>y.c7 (λb=>c7 i λa=>if a.length+b.length<=lim then M.ret (.d (.list (a++b))) else M.no) M.no) M.no
noncomputable def yo{α:Type}(f:Int->Int->M α)(x y:V):M α:=x.fu (λa=>y.fu (λb=>f a b) M.no) M.no
noncomputable def vSub:V->V->M V:=yo λa b=>M.ret (.d (.int (a - b)))
noncomputable def vMul:V->V->M V:=yo λa b=>if -1000<a/\a<1000 then M.ret (.d (.int (a*b))) else M.no
noncomputable def vMod:V->V->M V:=yo λa b=>if b≠0 then M.ret (.d (.int (a.fmod b))) else M.no
noncomputable def vDiv:V->V->M V:=yo λa b=>if 0<b/\b<1000000 then M.ret (.d (.int (a.fdiv b))) else M.no
noncomputable def vNeg(x:V):M V:=x.fu (λa=>M.ret (.d (.int (-a)))) M.no
noncomputable def kW(l:List D)(x:D):Bool:=l.any λy=>t7 y x
noncomputable def kA{α:Type}:List (Tx×α)->Tx->Option α
 |[],_=>none
 |p::r,x=>if p.1=x then some p.2 else kA r x
noncomputable def vEq(x y:V):M Bool:=x.yj (λa=>y.yj (λb=>if min (pL a) (pL b)<=30 then M.ret (t7 a b) else M.no) M.no) M.no
noncomputable def vNe(x y:V):M Bool:=x.yj (λa=>y.yj (λb=>if min (pL a) (pL b)<=30 then M.ret (!t7 a b) else M.no) M.no)<|x.HE (λl=>y.c7 (λb=>b.casesOn (M.ret (!l.isEmpty)) λU U=>M.no) M.no) M.no
noncomputable def vLt:V->V->M Bool:=yo λa b=>M.ret (decide (a<b))
noncomputable def vLe:V->V->M Bool:=yo λa b=>M.ret (decide (a<=b))
noncomputable def vGt:V->V->M Bool:=yo λa b=>M.ret (decide (a>b))
noncomputable def vGe:V->V->M Bool:=yo λa b=>M.ret (decide (a≥b))
noncomputable def vIsNone(x y:V):M Bool:=y.jG (x.jG (M.ret true)<|x.fu (λU=>M.ret false)<|x.onStr (λU=>M.ret false)<|x.lC (λU=>M.ret false) M.no) M.no
noncomputable def vIsNotNone(x y:V):M Bool:=y.jG (x.jG (M.ret false)<|x.fu (λU=>M.ret true) M.no) M.no
noncomputable def one{α:Type}(l:Tx)(f:Nat->M α):M α:=l.casesOn M.no λc r=>r.casesOn (f c) λU U=>M.no
noncomputable def OX(n:Bool->Bool)(x y:V):M Bool:=
 y.jz (λl=>x.yj (λx=>if pL x<=30 then M.ret (n (kW l x)) else M.no) M.no)<|
 y.c7 (λl=>x.yj (λx=>if pL x<=30 then M.ret (n (kW l x)) else M.no) M.no)<|
 y.onStr (λl=>x.onStr (λk=>one k λch=>M.ret (n (decide (ch∈l)))) M.no)<|
 y.mG (λl=>x.onStr (λk=>M.ret (n (kA l k).isSome)) M.no) M.no
noncomputable def vIn:V->V->M Bool:=OX id
noncomputable def vNotIn:V->V->M Bool:=OX not
noncomputable def vTrue(x:V):M Bool:=x.lC (λb=>M.ret b) M.no
section
variable{fi:FI}(z:Z fi){τ:cO}{κ:View}{ρ:Env}{σ:Store}{s:aI}{Q E:Pq Value}{a b:Value}{x y:V}
noncomputable def Z.g{α:Type}(s:aI)(Q:Pq α)(E:Pq Value)(t:Value->Sem α):Value->Prop:=λa=>aO z.M z.A (t a) Q E s
theorem Z.room:z.A.units+40<=ko:=ac (aB (ak _ _) _) z.a.units
theorem kX{α β:Type}(op:Value->Value->Sem β){f:Int->Int->M α}{K:α->Store->Prop}{X:Int->Prop}{Q:Pq β}(n:dY z.c ((τ.v a x).v b y) ρ σ s)(h:Go (yo f x y σ) K X)(k:∀i t j u,dY z.c τ ρ σ s->Go (f i j σ) K X->aO z.M z.A (op (.int i t) (.int j u)) Q E s):aO z.M z.A (op a b) Q E s:=
 n.two λU st ra rb ht=>ra.n8 (G:=z.g s Q E (op · b)) h (λi t h=>rb.n8 (G:=z.g s Q E (op (.int i t))) h (λj u h=>k i t j u (.mk st ht) h) aC) aC
theorem dY.Dh(st:St z.c κ ρ σ s)(ht:τ.p κ){l m:List D}(ra:RD κ.B a (.tup l))(rb:RD κ.B b (.tup m))(hl:l.length+m.length<=lim)(h:KV z.c τ ρ Q (.d (.tup (l++m))) σ):aO z.M z.A (dH .Add a b) Q E s:=by
 refine dB.tup (G:=λa=>RD κ.B a (.tup l)->aO z.M z.A (dH .Add a b) Q E s) st.know ra (λt vs it r ra=>dB.tup (G:=λb=>RD κ.B b (.tup m)->aO z.M z.A (dH .Add (.ref t) b) Q E s) st.know rb (λu ws iu r' rb=>?_) rb) ra
 obtain ⟨le,st',q⟩:=st.pK z.ok (R:=λB vs=>fI B vs (l++m)) λU hB=>(r.append r').mono hB
 refine Internal.Dh it iu (λe=>?_) (λe=>?_) (h _ _ (.mk st' ⟨q,τ.up le ht⟩)) (fj (by rw[r.length,r'.length];exact hl))
 ·subst e;cases l with
  |nil=>exact h _ _ (.mk st ⟨rb,ht⟩)
  |cons U J=>cases r with|mk e=>exact nomatch e
 ·subst e;cases m with
  |nil=>exact h _ _ (.mk st ⟨(au l).symm▸ra,ht⟩)
  |cons U J=>cases r' with|mk e=>exact nomatch e
theorem dY.vU(st:St z.c κ ρ σ s)(ht:τ.p κ){t u:Addr}{vs ws:List Value}{l m:List D}(it:s.heap.IsList t vs.toArray)(r:fI κ.B vs l)(iu:s.heap.IsList u ws.toArray)(r':fI κ.B ws m)(hl:l.length+m.length<=lim)(h:KV z.c τ ρ Q (.d (.list (l++m))) σ):
  aO z.M z.A (dH .Add (.ref t) (.ref u)) Q E s:=
 have ⟨le,st',q⟩:=st.pK z.ok (R:=λB vs=>fI B vs (l++m)) λU hB=>(r.append r').mono hB
 Internal.vU it iu (h _ _ (.mk st' ⟨q,τ.up le ht⟩)) (fj (by rw[r.length,r'.length];exact hl))
end
theorem zP:qN (dH .Add) vAdd:=λz τ ρ σ s Q E a b x y n h=>n.two λκ st ra rb ht=>
 ra.n8 (G:=z.g s Q E (dH .Add · b)) h (λi t h=>rb.n8 (G:=z.g s Q E (dH .Add (.int i t))) h (λj u h=>add_int (h _ _ (.mk (st.tok _) ⟨⟨_,rfl⟩,ht⟩))) aC) λh=>
 ra.mc h (λl t h=>rb.mc (G:=z.g s Q E (dH .Add (.str (S l) t))) h (λm u h=>add_str (λt' tk=>by rw[<-sM];exact h.ite.2 _ _ (.mk (st.tok _) ⟨⟨_,rfl⟩,ht⟩)) (fj h.ite.1)) aC) λh=>
 ra.wd h (λl ra h=>rb.wd h (λm rb h=>dY.Dh z st ht ra rb h.ite.1 h.ite.2) aC) λh=>
 ra.hZ h (λl ra h=>rb.hZ h (λm rb h=>dB.list st.know ra λt vs it r=>dB.list (G:=z.g s Q E (dH .Add (.ref t))) st.know rb λu ws iu r'=>dY.vU z st ht it r iu r' h.ite.1 h.ite.2) aC) λh=>
 ra.tZ h (λi ra h=>rb.hZ h (λm rb h=>have ⟨l,hl,h⟩:=h.sF;st.HG hl ra λt vs it r=>dB.list (G:=z.g s Q E (dH .Add (.ref t))) st.know rb λu ws iu r'=>dY.vU z st ht it r iu r' h.ite.1 h.ite.2) aC) aC
theorem K0:qN (dH .Sub) vSub:=λz U U U U U U U U U U n h=>kX z (dH .Sub) n h λU U U U n h=>sub_int (h _ _ ((n.tok _).d λU=>⟨_,rfl⟩))
theorem K1:qN (dH .Mult) vMul:=λz U U U U U U U U U U n h=>kX z (dH .Mult) n h λU U U U n h=>have q:=h.ite;mul_int (q.2 _ _ ((n.tok _).d λU=>⟨_,rfl⟩)) (IntMulOk.of_left (intBits_le_64 (aX (by decide) (c9 q.1.1)) (bL q.1.2 (by decide))))
theorem K2:qN (dH .Mod) vMod:=λz U U U U U U U U U U n h=>kX z (dH .Mod) n h λU U U U n h=>mod_int' h.ite.1 (h.ite.2 _ _ ((n.tok _).d λU=>⟨_,rfl⟩))
theorem K3:qN (dH .FloorDiv) vDiv:=λz U U U U U U U U U U n h=>kX z (dH .FloorDiv) n h λU U U U n h=>have q:=h.ite.1;floordiv_int (tB q.1) (h.ite.2 _ _ ((n.tok _).d λU=>⟨_,rfl⟩)) (Or.inl (oI (aP.mp (by rw[Int.natAbs_of_nonneg (c9 q.1)];exact A0 q.2 (by decide)))))
theorem OY:EH (unaryOp .USub) vNeg:=λz U U U s Q E U U n h=>n.one λU st ra ht=>ra.n8 (G:=z.g s Q E (unaryOp .USub)) h (λU U h=>neg_int (h _ _ (.mk (st.tok _) ⟨⟨_,rfl⟩,ht⟩))) aC
theorem OZ:qO .Lt vLt:=λz U U U U U U U U U U n h=>kX z (dF .Lt) n h λU U U U n h=>lt_int (h _ n)
theorem O0:qO .LtE vLe:=λz U U U U U U U U U U n h=>kX z (dF .LtE) n h λU U U U n h=>le_int (h _ n)
theorem cmp_gt:qO .Gt vGt:=λz U U U U U U U U U U n h=>kX z (dF .Gt) n h λU U U U n h=>gt_int (h _ n)
theorem O1:qO .GtE vGe:=λz U U U U U U U U U U n h=>kX z (dF .GtE) n h λU U U U n h=>ge_int (h _ n)
theorem O2:qO .Eq vEq:=λz U U U U U U U U U U n h=>n.two λU st ra rb ht=>ra.d? h (λx ra h=>rb.d? h (λy rb h=>EqBoolInt.of_rc (Yf st.know z.room (ra.is st.know x) (rb.is st.know y) h.ite.1) (h.ite.2 _ (.mk st ht))) aC) aC
theorem O3:qO .NotEq vNe:=λz U U U s Q E a b U U n h=>n.two λU st ra rb ht=>ra.d? h (λx ra h=>rb.d? h (λy rb h=>tC (Si st.know z.room (ra.is st.know x) (rb.is st.know y) h.ite.1) (h.ite.2 _ (.mk st ht))) aC) λh=>
 ra.Se h (λl ra h=>rb.hZ h (λm rb h=>by
  cases m with
  |cons U J=>exact h.elim
  |nil=>exact dB.list (G:=z.g s Q E (dF .NotEq · b)) st.know ra λt vs it r=>tC (Si st.know z.room (.list it r) (RD.is st.know (.list []) rb) (ac (gY _ _) (aa rfl))) (by cases l<;>exact h _ (.mk st ht))) aC) aC
theorem O4:qO .Is vIsNone:=λz U U U s Q E a b U U n h=>n.two λU st ra rb ht=>rb.Br (G:=z.g s Q E (dF .Is a)) h (λh=>ra.Br (G:=z.g s Q E (dF .Is · .none)) h (λh=>wpAny_is_self rfl (h _ (.mk st ht))) λh=>ra.n8 h (λU U h=>qm rfl nofun (h _ (.mk st ht))) λh=>
 ra.mc h (λU U h=>qm rfl nofun (h _ (.mk st ht))) λh=>ra.EI h (λU h=>qm rfl nofun (h _ (.mk st ht))) aC) aC
theorem F9:qO .IsNot vIsNotNone:=λz U U U s Q E a b U U n h=>n.two λU st ra rb ht=>rb.Br (G:=z.g s Q E (dF .IsNot a)) h (λh=>ra.Br (G:=z.g s Q E (dF .IsNot · .none)) h (λh=>wpAny_isNot_self rfl (h _ (.mk st ht))) λh=>
 ra.n8 h (λU U h=>wpAny_isNot_other rfl nofun (h _ (.mk st ht))) aC) aC
theorem O5:Na x7 vTrue:=λz U U U s Q E U U n h=>n.one λU st ra ht=>ra.EI (G:=z.g s Q E x7) h (λU h=>dN (h _ (.mk st ht))) aC
theorem b_.of{fi:FI}{e:Expr}{m:ME}(h:aD fi e m):b_ fi e (OT vTrue m):=λz U U U U Q U st g=>h z st (g.seq λx U g v s n=>n.one λU st ra ht=>ra.EI (G:=λv=>Q v s) g (λU g=>g _ (.mk st ht)) aC)
noncomputable def F_(B:Vw)(x:D)(y:Value):Bool:=@decide (∃d,RD B y d/\t7 d x=true) (nM _)
theorem zQ{B:Vw}{x d:D}{y:Value}(h:RD B y d):F_ B x y=t7 d x:=
 gd.mpr ((@decide_eq_true_iff _ (nM _)).trans ⟨λ⟨_,h',e⟩=>RD.HH _ h h'▸e,λe=>⟨d,h,e⟩⟩)
theorem Bv{B:Vw}{x:D}:∀{l:List D} {vs:List Value},fI B vs l->vs.any (F_ B x)=kW l x:=λ{l}=>by
 induction l with
 |nil=>exact λh=>congrArg (List.any · _) h
 |cons d l ih=>exact λh=>kJ.elim (G:=λvs=>vs.any (F_ B x)=_) h λa t p q=>congr (congrArg or (zQ p)) (ih q)
section
variable{fi:FI}{z:Z fi}{κ:View}{ρ:Env}{σ:Store}{s:aI}
theorem St.hits(st:St z.c κ ρ σ s){x:D}{v:Value}(hv:RD κ.B v x)(hx:pL x<=30){vs:List Value}{l:List D}(r:fI κ.B vs l):∀y,y∈vs.toArray->EqAt z.A.in1 s y v (F_ κ.B x y):=λy hy=>by
 refine cps λP9 k9=>?_
 obtain ⟨i,hi⟩:=gn.mp (nN.mp hy);obtain ⟨d, -,hd⟩:=r.all.at hi;refine k9 ?_;simp only [zQ hd];exact HK st.know 31 z.A.in1 d x y v (c8 (ac (gY _ _) hx)) (ac (aW (bo z.A.units 1 31)) (ac (aK (aa rfl) _) z.room)) hd hv
end
theorem HM(ch:Nat):S [ch]=⟨#[ch]⟩:=rfl
theorem K4(l:Tx)(ch:Nat):tD (S l) (S [ch])=decide (ch∈l):=by
 unfold tD;simp only [HM,StrLaws.found_one]
 congr
theorem Bw(a b:Str)(t:Tok):dZ a (.str b t)=(b==a):=rfl
theorem En.find{P:hY}{δ:Type}{R:Value->δ->Prop}{k:Tx}:∀{l:List (Tx×δ)} {es:List bh},dp (En S (zI P) R) es l->(kA l k).elim (o3 dZ es.toArray (S k)=none) λd=>∃v,o3 dZ es.toArray (S k)=some v/\R v d:=λ{l}=>by
 have step:∀(e:bh) (es:List bh),o3 dZ (e::es).toArray (S k)=if dZ (S k) e.key=true then some e.val else o3 dZ es.toArray (S k):=λe es=>by
  unfold o3;rw[sb,sb,List.find?_cons];cases dZ (S k) e.key<;>rfl
 induction l with
 |nil=>exact λh=>by rw[show _=[] from h];rfl
 |cons p l ih=>
  intro es h;refine kJ.elim (G:=λes=>(kA (p::l) k).elim (o3 dZ es.toArray (S k)=none) λd=>∃v,o3 dZ es.toArray (S k)=some v/\R v d) h λe t q r=>?_
  cases q with|mk h1 h2 h3=>
  rw[step,h2,Bw,vT];show ((if p.1=k then some p.2 else kA l k).elim _ _:Prop)
  by_cases q:p.1=k
  ·rw[if_pos q,if_pos (beq_iff_eq.mpr q)];exact ⟨_,rfl,h3⟩
  ·rw[if_neg q,if_neg λe=>q (beq_iff_eq.mp e)]
   exact ih r
theorem En.keys{δ:Type}{R:Value->δ->Prop}{w:va}{prog:lr}{l:List (Tx×δ)}{es:List bh}(h:dp (En S (zI w.params) R) es l)(e:bh)(he:e∈es):∃k,(strKind prog w).is k e.key=true/\e.hash=(strKind prog w).hash k:=by
 refine cps λP9 k9=>?_
 obtain ⟨i,hi⟩:=gn.mp he;obtain ⟨p, -,q⟩:=h.at hi;exact k9 (q.el λh1 h2 h3=>⟨_,by rw[h2];exact gO prog w _ _,h1⟩)
theorem En.mapOf{δ:Type}{R:Value->δ->Prop}{w:va}{prog:lr}{h:Heap}{a:Addr}{es:List bh}{n:Nat}{l:List (Tx×δ)}(r:dp (En S (zI w.params) R) es l)(hg:h.get? a=some (dh es n)):h.MapOf (strKind prog w) a (λk=>o3 dZ es.toArray k):=
 ⟨_,es.toArray,n,hg,⟨rfl,rfl,rfl⟩,rfl,λe he=>En.keys r e (nN.mp he),λU=>rfl⟩
theorem En.has{P:hY}{δ:Type}{R:Value->δ->Prop}{k:Tx}{l:List (Tx×δ)}{es:List bh}(h:dp (En S (zI P) R) es l):(o3 dZ es.toArray (S k)).isSome=(kA l k).isSome:=by
 have f:=En.find (k:=k) h;cases q:kA l k with
 |none=>rw [q] at f;exact congrArg Option.isSome f
 |some d=>rw [q] at f;obtain ⟨v,e, -⟩:=f;rw[e];rfl
theorem Go.one{α:Type}{l:Tx}{f:Nat->M α}{σ:Store}{K:α->Store->Prop}{X:Int->Prop}(g:Go (one l f σ) K X):∃c,l=[c]/\Go (f c σ) K X:=by
 cases l with
 |nil=>exact g.elim
 |cons c r=>cases r with
  |nil=>exact ⟨c,rfl,g⟩
  |cons U J=>exact g.elim
section
variable{fi:FI}(z:Z fi){τ:cO}{ρ:Env}{σ:Store}{s:aI}{Q E:Pq Value}{a b:Value}{x y:V}
theorem mem_of(op:CmpOp)(f:Bool->Bool)(n:dY z.c ((τ.v a x).v b y) ρ σ s)(h:Go (OX f x y σ) (KQ z.c τ ρ Q) (KE z.c ρ E))
  (h1:∀{t:Addr} {vs:Array Value} {v:Value} (e:Value->Bool),s.heap.IsTuple t vs->(∀y,y∈vs->EqAt z.A.in1 s y v (e y))->Q (.bool (f (vs.any e))) s->aO z.M z.A (dF op v (.ref t)) Q E s)
  (h2:∀{t:Addr} {vs:Array Value} {v:Value} (e:Value->Bool),s.heap.IsList t vs->(∀y,y∈vs->EqAt z.A.in1 s y v (e y))->Q (.bool (f (vs.any e))) s->aO z.M z.A (dF op v (.ref t)) Q E s)
  (h3:∀{x y:Str} {t u:Tok},Q (.bool (f (tD y x))) s->aO z.M z.A (dF op (.str x t) (.str y u)) Q E s)
  (h4:∀{k:Str} {t:Tok} {d:Addr} {m:Str->Option Value},(d==gN)=false->s.heap.MapOf (strKind z.c.W.prog z.c.W.w) d m->Q (.bool (f (m k).isSome)) {s with toks:=s.toks+1}->aO z.M z.A (dF op (.str k t) (.ref d)) Q E s):aO z.M z.A (dF op a b) Q E s:=n.two λκ st ra rb ht=>
 rb.wd h (λl rb h=>ra.d? h (λx ra h=>dB.tup (G:=z.g s Q E (dF op a)) st.know rb λt vs it r=>h1 _ it (st.hits ra h.ite.1 r) (by rw[uA,Bv r];exact h.ite.2 _ (.mk st ht))) aC) λh=>
 rb.hZ h (λl rb h=>ra.d? h (λx ra h=>dB.list (G:=z.g s Q E (dF op a)) st.know rb λt vs it r=>h2 _ it (st.hits ra h.ite.1 r) (by rw[uA,Bv r];exact h.ite.2 _ (.mk st ht))) aC) λh=>
 rb.mc (G:=z.g s Q E (dF op a)) h (λl u h=>ra.mc (G:=z.g s Q E (dF op · (.str (S l) u))) h (λk t h=>have ⟨ch,e,h⟩:=h.one;h3 (by rw[e,K4];exact h _ (.mk st ht))) aC) λh=>
 rb.Bs h (λl rb h=>ra.mc (G:=z.g s Q E (dF op · b)) h (λk t h=>by
  refine rb.el λe q hd r=>?_
  simp only [e];rw[st.P.P] at r;refine h4 q (En.mapOf r (st.know _ _ hd)) ?_;exact (En.has r)▸h _ (.mk (st.tok _) ht)) aC) aC
theorem O6:qO .In vIn:=λz U U U U U U U U U U n h=>mem_of z .In id n h (λe a b c=>in_tupleAt e a b c) (λe a b c=>in_listAt e a b c) (λh=>SB.contains h) λa b c=>wpAny_in_of (gO _ _ _ _) a b c
theorem Ga:qO .NotIn vNotIn:=λz U U U U U U U U U U n h=>mem_of z .NotIn not n h (λe a b c=>notIn_tupleAt e a b c) (λe a b c=>notIn_listAt e a b c) (λh=>SB.notContains h) λa b c=>wpAny_notIn_of (gO _ _ _ _) a b c
end
noncomputable def zS{α:Type}(l:List α)(i:Int):Option α:=if -1000000<i/\i<1000000 then (jZ i l.length).bind (l[·]?) else none
theorem wq{α:Type}{l:List α}{i:Int}{x:α}{P:Prop}(h:zS l i=some x)(k:∀j, -(2 ^ 63)<=i->i<2 ^ 63->jZ i l.length=some j->l[j]? =some x->P):P:=by
 by_cases q: -1000000<i/\i<1000000
 ·obtain ⟨j,hj,hx⟩:=aS.mp ((if_pos q).symm.trans h);exact k j (aX (by decide) (c9 q.1)) (bL q.2 (by decide)) hj hx
 ·exact nomatch ((if_neg q).symm.trans h)
noncomputable def vItem(x y:V):M V:=
 y.fu (λi=>x.jz (λl=>M.opt ((zS l i).map .d))<|x.c7 (λl=>M.opt ((zS l i).map .d))<|x.onStr (λl=>M.opt ((zS l i).map λch=>.d (.str [ch])))<|
  x.Df (λl=>M.opt (zS l i))<|x.jA (λk=>qu k λl=>M.opt (zS l i)) M.no)<|
 y.onStr (λk=>x.jA (λo σ=>O.mG σ[o]? (λl=>M.opt (kA l k)) M.no σ)<|x.mG (λl=>M.opt ((kA l k).map .d)) M.no) M.no
theorem Go.Di{α γ:Type}{o:Option α}{f:α->γ}{σ:Store}{K:γ->Store->Prop}{X:Int->Prop}(g:Go (M.opt (o.map f) σ) K X):∃b,o=some b/\K (f b) σ:=by
 cases o with
 |none=>exact g.elim
 |some b=>exact ⟨b,rfl,g⟩
theorem O.Bs{γ:Type}{o:Option O}{f:List (Tx×V)->M γ}{σ:Store}{K:γ->Store->Prop}{X:Int->Prop}(g:Go (O.mG o f M.no σ) K X):∃l,o=some (.dict l)/\Go (f l σ) K X:=by
 cases o with
 |none=>exact g.elim
 |some o=>cases o with
  |dict l=>exact ⟨l,rfl,g⟩
  |_=>exact g.elim
theorem St.Nd{c:Cx}{κ:View}{ρ:Env}{σ:Store}{s:aI}{a:Value}{G:Value->Prop}(x:St c κ ρ σ s){i:Nat}{l:List (Tx×V)}(h:σ[i]? =some (.dict l))(r:jy κ.ι a i)(k:∀b es n,κ.ι[i]? =some [b]->s.heap.get? b=some (dh es n)->Bl κ es l->G (.ref b)):G a:=by
 refine r.el λe ha=>(x.store i _ h).el λhb ro=>?_
 obtain rfl:=aF (ha.symm.trans hb);refine ro.el λe2 hg hr=>?_
 obtain ⟨rfl,rfl⟩:=c6 e2;simp only [e];exact k _ _ _ hb hg hr
section
variable{z:Z fi}
theorem Bx{β:Type}{R:Value->β->Prop}{l:List β}{x:β}(hs:∀o i,gP slice false o i=o4 [o,i] (j6 o i))(it:s.heap.IsTuple t vs.toArray)(r:dp R vs l)(h:zS l i=some x)(k:∀v,R v x->Q v s):aO z.M z.A (cH value slice (.ref t) (.int i u)) Q E s:=
 wq h λj a b hj hx=>have ⟨_,h1,h2⟩:=r.get j x hx;nX it.typeIs iW.lookup (getItem_tuple it a b (by rw[aR,r.length];exact hj) ((bV ..).trans h1) (k _ h2)) (hs _ _)
theorem Dj{k:Int}{n j:Nat}(h0:¬k<0)(hj:jZ k n=some j):k.toNat=j:=by
 unfold jZ at hj;simp only [h0,if_false] at hj
 split at hj
 ·exact aF hj
 ·exact nomatch hj
theorem yQ{β:Type}{R:Value->β->Prop}{l:List β}{x:β}(hs:∀o i,gP slice false o i=o4 [o,i] (j6 o i))(it:s.heap.IsList t vs.toArray)(r:dp R vs l)(h:zS l i=some x)(k:∀v,R v x->Q v s):aO z.M z.A (cH value slice (.ref t) (.int i u)) Q E s:=
 wq h λj a b hj hx=>have ⟨_,h1,h2⟩:=r.get j x hx;nX it.typeIs tP.lookup (by
  by_cases h0:i<0
  ·exact kde_getNeg it h0 a (r.length▸hj) h1 (k _ h2)
  ·exact wpAny_getItem_list it (eK.mp h0) b ((bV ..).trans ((Dj h0 hj)▸h1)) (k _ h2)) (hs _ _)
theorem yR{δ:Type}{R:Value->δ->Prop}{l:List (Tx×δ)}{d:δ}{k:Tx}{a:Addr}{es:List bh}{n:Nat}(hs:∀o i,gP slice false o i=o4 [o,i] (j6 o i))(st:St z.c κ ρ σ s)(r:dp (En S (zI κ.P) R) es l)(hg:s.heap.get? a=some (dh es n))(h:kA l k=some d)(g:∀v,R v d->Q v {s with toks:=s.toks+1}):
  aO z.M z.A (cH value slice (.ref a) (.str (S k) u)) Q E s:=by
 have f:=En.find (k:=k) r;rw[h] at f
 obtain ⟨v,hf,hv⟩:=f;rw[st.P.P] at r;exact nX (En.mapOf (prog:=z.c.W.prog) r hg).typeIs slot_dict_getitem.lookup (wpAny_getItem_of (gO _ _ _ _) (En.mapOf r hg) hf (g _ hv)) (hs _ _)
end
theorem HN{value slice:Expr}(hs:∀o i,gP slice false o i=o4 [o,i] (j6 o i)):qN (cH value slice) vItem:=λz τ ρ σ s Q E a b x y n h=>n.two λκ st ra rb ht=>
 rb.n8 h (λi u h=>
  ra.wd h (λl ra h=>have ⟨d,hd,h⟩:=h.Di;dB.tup (G:=z.g s Q E (cH value slice · (.int i u))) st.know ra λt vs it r=>Bx hs it r.all hd λv r=>h _ _ (.mk st ⟨r,ht⟩)) λh=>
  ra.hZ h (λl ra h=>have ⟨d,hd,h⟩:=h.Di;dB.list (G:=z.g s Q E (cH value slice · (.int i u))) st.know ra λt vs it r=>yQ hs it r.all hd λv r=>h _ _ (.mk st ⟨r,ht⟩)) λh=>
  ra.mc (G:=z.g s Q E (cH value slice · (.int i u))) h (λl t h=>have ⟨ch,hd,h⟩:=h.Di;wq hd λj h1 h2 hj hx=>nX (sz _ _ _) sd.lookup
   (P.getItem_str (by rw[decide_eq_false (eK.mpr h1),decide_eq_false (se.mpr h2)];rfl) (by rw[sG,hj];exact (bV ..).trans hx) (h _ _ (.mk (st.tok _) ⟨⟨_,rfl⟩,ht⟩))) (hs _ _)) λh=>
  ra.Sd h (λl ra h=>have ⟨d,hd,h⟩:=h.opt;dB.tup st.know ra λt vs it r=>Bx hs it r.all hd λv r=>h _ _ (.mk st ⟨r,ht⟩)) λh=>
  ra.tZ h (λk ra h=>have ⟨l,hl,h⟩:=h.sF;have ⟨d,hd,h⟩:=h.opt;st.listV hl ra λt vs m U hg r=>yQ hs ⟨_,hg,rfl,_,rfl⟩ r.all hd λv r=>h _ _ (.mk st ⟨r,ht⟩)) aC) λh=>
 rb.mc (G:=z.g s Q E (cH value slice a)) h (λk u h=>
  ra.tZ h (λo ra h=>have ⟨l,hl,h⟩:=O.Bs h;have ⟨d,hd,h⟩:=h.opt;st.Nd (G:=z.g s Q E (cH value slice · (.str (S k) u))) hl ra λt es m U hg r=>yR hs st r hg hd λv r=>h _ _ (.mk (st.tok _) ⟨r,ht⟩)) λh=>
  ra.Bs h (λl ra h=>have ⟨d,hd,h⟩:=h.Di;by
   exact ra.el λe q hg r=>e▸yR hs st r (st.know _ _ hg) hd λv r=>h _ _ (.mk (st.tok _) ⟨r,ht⟩)) aC) aC
theorem aD.item(hv:aD fi value mv)(hi:aD fi slice ms)(hs:∀o i,gP slice false o i=o4 [o,i] (j6 o i)):aD fi (.Subscript value slice pos) (KR vItem mv ms):=λz U U U U U U st h=>
 Subscript_ (hv z st (h.seq λU U h U U st=>hi z st (h.seq λU U h U U st=>HN hs z st h)))
noncomputable def je(n:Nat)(lo:Option Int):Nat:=lo.elim 0 (clipAt n)
noncomputable def pM(n:Nat)(hi:Option Int):Nat:=hi.elim n (clipAt n)
noncomputable def cut{α:Type}(l:List α)(lo hi:Option Int):List α:=(l.drop (je l.length lo)).take (pM l.length hi - je l.length lo)
theorem K5 n i:clipAt n i<=n:=c_.mp (by rw[vc];exact Int.max_le.mpr ⟨bw _,Int.min_le_right _ _⟩)
theorem By n hi:pM n hi<=n:=by cases hi with|none=>exact ax _|some i=>exact K5 n i
theorem dp.cut{α β:Type}{R:α->β->Prop}{x:List α}{y:List β}(r:dp R x y)(lo hi:Option Int):dp R (cut x lo hi) (cut y lo hi):=by
 unfold Internal.cut;exact r.length▸(r.drop _).take _
theorem rg{α:Type}(l:List α)(lo hi:Option Int):(cut l lo hi).length<=l.length:=ac (List.length_take_le ..) (ac (jO ..) (By ..))
theorem Bz(n:Nat)(v:Int):(if v<0 then max (v+n) 0 else min v n)=(clipAt n v:Int):=by
 simp only [vc]
 by_cases h:v<0
 ·rw[if_pos h,if_pos h,Int.max_comm,vI (aX (gK (c9 h) _) (A1 (oJ _)))]
 ·rw[if_neg h,if_neg h,jP (Int.le_min.mpr ⟨eK.mp h,bw _⟩)]
theorem zT(lo hi:Option Int)(n:Nat):md lo hi 1 (n:Int)=((je n lo:Int),(pM n hi:Int)):=by
 refine Prod.ext ?_ ?_
 ·cases lo with
  |none=>rfl
  |some v=>exact Bz n v
 ·cases hi with
  |none=>rfl
  |some v=>exact Bz n v
theorem zU(a b:Nat):mf (a:Int) (b:Int) 1=b - a:=by
 show (if (a:Int)<b then ((b:Int) - a - 1)/1+1 else 0).toNat=b - a
 by_cases h:(a:Int)<b
 ·rw[if_pos h,A2,lL,Int.toNat_sub]
 ·rw[if_neg h,jC (c_.mp (eK.mp h))];rfl
theorem sN(lo hi:Option Int)(n:Nat):da lo hi 1 n=(d3 (pM n hi - je n lo)).map (je n lo+·):=by
 rw[<-sliceRange_one];unfold da je pM;cases lo<;>cases hi<;>simp [vc]
theorem yS{α:Type}(l:List α)(lo hi:Option Int)(h:pM l.length hi - je l.length lo=l.length):cut l lo hi=l:=by
 unfold cut;rw[h];rcases iQ (je l.length lo) with q|q
 ·rw[q];exact gZ
 ·rcases iQ l.length with q'|q'
  ·cases di.mp q';rw[rt,mZ]
  ·exact absurd (sf q' q) (gJ.mpr (ac (aW h.symm) (p9 (By ..) _)))
section
theorem wt(p:Option (Int×Tok))(hq:Q (p.map (·.1)) s):aO (bS prog w) A (vJ (eG p)) Q E s:=by
 cases p with
 |none=>exact x8 hq
 |some q=>exact slicePart_int hq
theorem rI{sl:Addr}{lo hi:Option (Int×Tok)}{n:Nat}{Q:Int×Int×Nat->aI->Prop}(hs:s.heap.IsSliceOf sl (eG lo) (eG hi) .none)
  (h:Q ((je n (lo.map (·.1)):Int),1,pM n (hi.map (·.1)) - je n (lo.map (·.1))) s):aO (bS prog w) A (xQ (.ref sl) (pure (n:Int))) Q E s:=by
 obtain ⟨os,Yg,hcs,Yh⟩:=hs;refine ao (ao (eb Yg Yh rfl (ao (eb Yg Yh (x:=eG hi) rfl (ao (eb Yg Yh rfl (aG (ao (x8 ?_)))))))));refine ao (wt lo (ao (wt hi (ao (aG ?_)))));show aO _ _ (match md (lo.map (·.1)) (hi.map (·.1)) 1 n with|(lo,hi)=>pure (lo,(1:Int),mf lo hi 1)) _ _ s
 rw[zT];simp only [zU];exact aG h
theorem HO(xs:List Value)(lo hi:Option Int):((d3 (pM xs.length hi - je xs.length lo)).filterMap λ(k:Nat)=>xs.toArray[((je xs.length lo:Int)+(k:Int)*1).toNat]?).toArray=(cut xs lo hi).toArray:=by
 have e:(λ(k:Nat)=>xs.toArray[((je xs.length lo:Int)+k*1).toNat]?)=(λx=>xs.toArray[x]?)∘(je xs.length lo+·):=funext λk=>by
  rw[u6];rfl
 rw[e,<-List.filterMap_map];exact congrArg A3 (pick_run xs.toArray (je xs.length lo) (pM xs.length hi - je xs.length lo))
theorem HP{t sl:Addr}{vs:List Value}{lo hi:Option (Int×Tok)}{Q:Value->aI->Prop}(ht:s.heap.IsTuple t vs.toArray)(hs:s.heap.IsSliceOf sl (eG lo) (eG hi) .none)
  (h0:cut vs (lo.map (·.1)) (hi.map (·.1))=vs->Q (.ref t) s)
  (h:Q (.ref s.heap.objs.size) {s with heap:=s.heap.push {cls:=.type "tuple",data:=.seq (cut vs (lo.map (·.1)) (hi.map (·.1))).toArray}})
  (wo:vs.length<=fe):aO (bS prog w) A (j6 (.ref t) (.ref sl)) Q E s:=by
 have K6:sizeOk (.seq (cut vs (lo.map (·.1)) (hi.map (·.1))).toArray):=ac (rg ..) wo;unfold j6
 try with_reducible refine dz ?_
 first|refine ao (aG ?_)|skip
 refine ao (wpAny_sequenceKey ht.typeIs (rfl) ?_);refine ao (wpAny_callSpecial?_slot ht.typeIs iW
  (nY iW ht.typeIs entry_tuple_getitem ?_ (args_tuple_getitem _ _)))
 show aO _ _ (xU (.ref t)>>=_) _ _ s;refine ao (tupleItemsOf_ ht (ao (lu (hs.elim λos q=>⟨os,q.1,q.2.1⟩) ?_)))
 refine ao (rI hs ?_);rw[aR];refine wpAny_ite_split (λhw=>?_) λU=>?_
 ·have hq:=h0 (yS vs _ _ (beq_iff_eq.mp (aj.mp hw).2));refine ao (ao (lu ht.typeIs (aG ?_)))
  exact ao (sA (aG ⟨_,rfl,aG hq⟩))
 ·simp only [HO]
  first
   |exact ao (df (aG ⟨_,rfl,aG h⟩) K6)
   |exact ao (df (ao (aG (aG ⟨_,rfl,aG h⟩))) K6)
   |exact ao (ao (df (aG (aG ⟨_,rfl,aG h⟩)) K6))
   |exact ao (ao (df (aG ⟨_,rfl,aG h⟩) K6))
theorem EL(l:Tx)(lo hi:Option Int):(⟨((da lo hi 1 (S l).length).filterMap ((S l).cps[·]?)).toArray⟩:Str)=S (cut l lo hi):=by
 simp only [sG,sN];exact congrArg S (pick_run (S l).cps (je l.length lo) (pM l.length hi - je l.length lo))
theorem HQ{l:Tx}{t:Tok}{p q:Option (Int×Tok)}{sl:Addr}{Q:Value->aI->Prop}(hl:l.length<=lim)(hs:s.heap.IsSliceOf sl (eG p) (eG q) .none)
  (h:∀t' k,Q (.str (S (cut l (p.map (·.1)) (q.map (·.1)))) t') {s with toks:=k}):aO (bS prog w) A (j6 (.str (S l) t) (.ref sl)) Q E s:=by
 obtain ⟨o,ho,hc,hd⟩:=hs;refine wpAny_getItem_str_slice (st:=none) ⟨o,ho,hc,hd⟩ rfl ?_;refine post_val_or_made (λU=>?_) λt' k=>?_
 ·show (⟨((da (p.map (·.1)) (q.map (·.1)) 1 (S l).length).filterMap ((S l).cps[·]?)).toArray⟩:Str).length<=fe;rw[EL];exact fj (ac (rg ..) hl)
 ·show Q (.str (if _ then S l else (⟨((da (oK (λx:Int×Tok=>x.1) p) (oK (λx:Int×Tok=>x.1) q) 1 (S l).length).filterMap ((S l).cps[·]?)).toArray⟩)) t') _
  rw[EL]
  split
  ·rename_i hw;rw[<-yS l _ _ ((by rw[sG,sN,af,jo]:(da (p.map (·.1)) (q.map (·.1)) 1 (S l).length).length=pM l.length (q.map (·.1)) - je l.length (p.map (·.1))).symm.trans (beq_iff_eq.mp (aj.mp hw).2))]
   exact h t' k
  ·exact h t' k
end
noncomputable def n_(fi:FI)(e:Option Expr)(m:ME):Prop:=∀(z:Z fi) {τ:cO} {ρ:Env} {σ:Store} {s:aI} {Q E:Pq Value},dY z.c τ ρ σ s->Go (m z.C ρ σ) (KV z.c τ ρ Q) (KE z.c ρ E)->aO z.M z.A (evalPart e z.c.env) Q E s
noncomputable def Dk(v:V)(k:Option Int->M V):M V:=v.jG (k none) (v.fu (λi=>k (some i)) M.no)
theorem RV.part{a:Value}{σ:Store}{K:V->Store->Prop}{G:Value->Prop}(r:RV κ a x)(g:Go (Dk x f σ) K X)(k:∀p:Option (Int×Tok),Go (f (p.map (·.1)) σ) K X->G (eG p)):G a:=
 r.Br g (λg=>k none g) λg=>r.n8 g (λi t g=>k (some (i,t)) g) aC
noncomputable def pN{α β:Type}(l:List α)(m:M β):M β:=if l.length<=lim then m else M.no
noncomputable def Nf(o:V)(lo hi:Option Int):M V:=
 o.jz (λl=>pN l (M.ret (.d (.tup (cut l lo hi)))))<|o.c7 (λl=>pN l (M.ret (.d (.list (cut l lo hi)))))<|o.onStr (λl=>pN l (M.ret (.d (.str (cut l lo hi)))))<|o.HE (λl=>pN l (M.ret (.d (.list (cut l lo hi))))) M.no
noncomputable def mJ(o a b:V):M V:=Dk a λlo=>Dk b λhi=>Nf o lo hi
noncomputable def Yi(o a b:ME):ME:=λC ρ=>(o C ρ).bind λx=>(a C ρ).bind λl=>(b C ρ).bind λh=>mJ x l h
theorem HR(p:Option (Int×Tok)):IsPart (eG p) (p.map (·.1)):=by cases p with|none=>exact .none|some p=>exact .int _ _
section
variable{z:Z fi}
theorem BA(st:St z.c κ ρ σ s)(ht:τ.p κ)(hs:gP slice false (.ref t) (.ref sl)=o4 [.ref sl,.ref t] (j6 (.ref t) (.ref sl)))(RM:s.heap.IsSliceOf sl (eG p) (eG q) .none)(it:s.heap.IsList t vs.toArray)(r:fI κ.B vs l)(hl:l.length<=lim)(h:KV z.c τ ρ Q (.d (.list (cut l (p.map (·.1)) (q.map (·.1))))) σ):
  aO z.M z.A (cH value slice (.ref t) (.ref sl)) Q E s:=
 have ⟨le,st',w⟩:=st.pK z.ok (tk:=s.toks) (ty:="list") (dk:=True) (R:=λB vs=>fI B vs (cut l (p.map (·.1)) (q.map (·.1)))) λU hB=>fI.mono hB (.of (r.all.cut (p.map (·.1)) (q.map (·.1))))
 nX it.typeIs tP.lookup (wpAny_getItem_list_slice it RM (HR p) (HR q) .none nofun (by rw[slicePick_plain];exact h _ _ (.mk st' ⟨w,τ.up le ht⟩)) (by rw[aR,r.length];exact fj hl)) hs
theorem HS{lower upper:Option Expr}{pp:Pos}{o:Value}{x:V}(st:St z.c κ ρ σ s)(RM:s.heap.IsSliceOf sl (eG p) (eG q) .none)(ro:RV κ o x)(ht:τ.p κ)(h:Go (Nf x (p.map (·.1)) (q.map (·.1)) σ) (KV z.c τ ρ Q) (KE z.c ρ E)):
  aO z.M z.A (cH value (.Slice lower upper none pp) o (.ref sl)) Q E s:=
 ro.wd h (λl ro h=>dB.elim (G:=z.g s Q E (cH value (.Slice lower upper none pp) · (.ref sl))) ro λt o vs n e1 e2 e3 e4 r=>
  have ⟨le,st',w⟩:=st.pK z.ok (R:=λB vs=>fI B vs (cut l (p.map (·.1)) (q.map (·.1)))) λU hB=>fI.mono hB (.of (r.all.cut (p.map (·.1)) (q.map (·.1))))
  nX (show s.heap.IsTuple t vs.toArray from ⟨_,st.know _ _ e1,e2,_,e3⟩).typeIs iW.lookup (HP (⟨_,st.know _ _ e1,e2,_,e3⟩) RM (λe=>h.ite.2 _ _ (.mk st ⟨.mk rfl e1 e2 e3 e4 (e▸ .of (r.all.cut (p.map (·.1)) (q.map (·.1)))),ht⟩)) (h.ite.2 _ _ (.mk st' ⟨w,τ.up le ht⟩)) (fj (r.length▸h.ite.1))) rfl) λh=>
 ro.hZ h (λl ro h=>dB.list (G:=z.g s Q E (cH value (.Slice lower upper none pp) · (.ref sl))) st.know ro λt vs it r=>BA st ht rfl RM it r h.ite.1 h.ite.2) λh=>
 ro.mc (G:=z.g s Q E (cH value (.Slice lower upper none pp) · (.ref sl))) h (λl t h=>nX (sz _ _ _) sd.lookup (HQ h.ite.1 RM λt' k=>h.ite.2 _ _ (.mk (st.tok _) ⟨⟨_,rfl⟩,ht⟩)) rfl) λh=>
 ro.Se h (λl ro h=>dB.list st.know ro λt vs it r=>BA st ht rfl RM it r h.ite.1 h.ite.2) aC
end
theorem n_.none{fi:FI}:n_ fi .none (eD .none):=λU U U U U U U st h=>aG (h _ _ (st.d λU=>rfl))
theorem n_.some{fi:FI}{e:Expr}{m:ME}(h:aD fi e m):n_ fi (.some e) m:=λz U U U U U U st g=>h z st g
theorem aD.cut{fi:FI}{value:Expr}{lower upper:Option Expr}{p pos:Pos}{mo ma mb:ME}(ho:aD fi value mo)(ha:n_ fi lower ma)(hb:n_ fi upper mb):aD fi (.Subscript value (.Slice lower upper .none p) pos) (Yi mo ma mb):=λz τ ρ U U Q E st h=>
 Subscript_ (ho z st (h.seq λx U h o U st=>wpAny_Slice (ha z st (h.seq λa U h l U st=>hb z st (h.seq λb σ h u s st=>by
  refine aG ?_;refine cps λP9 k9=>?_
  refine st.el λst r=>?_
  obtain ⟨ru,rl,ro,ht⟩:=r;refine k9 ?_;exact RV.part (G:=λl=>aO z.M z.A (cH value (.Slice lower upper .none p) o (.ref s.heap.objs.size)) Q E {s with heap:=s.heap.push {cls:=.type "slice",data:=.fields #[l,u,.none]}}) rl h λp' h=>RV.part (G:=λu=>aO z.M z.A (cH value (.Slice lower upper .none p) o (.ref s.heap.objs.size)) Q E {s with heap:=s.heap.push {cls:=.type "slice",data:=.fields #[eG p',u,.none]}}) ru h λq' h=>HS (st.grow z.ok λb o e=>az _ e) (Ew ..) ro ht h)))))
noncomputable def HT(l:List V):V:=(lD l).elim (.tup l) λds=>.d (.tup ds)
noncomputable def Yj(m:MAs):ME:=λC ρ=>(m C ρ).bind λl=>pN l (M.ret (HT l))
noncomputable def eList(m:MAs):ME:=λC ρ=>(m C ρ).bind λl=>sF (lD l) λds=>pN l (M.ret (.d (.list ds)))
theorem aD.tup{fi:FI}{es:List Expr}{k:Nat}{pos:Pos}{m:MAs}(h:c5 fi es m):aD fi (.Tuple es k pos) (Yj m):=λz τ ρ U U U U st g=>
 Tuple_ (h z pos st (g.seq λl σ g vs s st=>by
  refine st.el @λκ st r=>r.elim λr ht=>df ?_ (show vs.toArray.size<=fe by rw[aR,r.length];exact fj g.ite.1)
  have g:=g.ite.2;have g:KV z.c τ ρ _ (HT l) σ:=g
  cases e:lD l with
  |none=>
   unfold HT at g;rw[e] at g;obtain ⟨le,st',w⟩:=st.pK z.ok (R:=λB vs=>o7 {κ with B:=B} vs l) λB' hB=>o7.mono (κ:=κ) (κ':={κ with B:=B'}) ⟨rfl,hB,yM.refl _⟩ r
   exact g _ _ (.mk st' ⟨w,τ.up le ht⟩)
  |some ds=>
   unfold HT at g;rw[e] at g;obtain ⟨le,st',w⟩:=st.pK z.ok (R:=λB vs=>fI B vs ds) λB' hB=>fI.mono hB (o7.lD e r)
   exact g _ _ (.mk st' ⟨w,τ.up le ht⟩)))
theorem aD.list{fi:FI}{es:List Expr}{pos:Pos}{m:MAs}(h:c5 fi es m):aD fi (.List es pos) (eList m):=λz τ ρ U U U U st g=>
 List_ (h z pos st (g.seq λl σ g vs s st=>by
  refine st.el λst r=>?_
  obtain ⟨r,ht⟩:=r;obtain ⟨ds,e,g⟩:=g.sF;refine df ?_ (show vs.toArray.size<=fe by rw[aR,r.length];exact fj g.ite.1)
  obtain ⟨le,st',w⟩:=st.pK z.ok (R:=λB vs=>fI B vs ds) λB' hB=>fI.mono hB (o7.lD e r)
  exact g.ite.2 _ _ (.mk st' ⟨w,τ.up le ht⟩)))
section
variable{fi:FI}(z:Z fi)
theorem Z.kf:KF z.c.W.w.params z.c.W.K:=z.ok.w.kf
theorem Z.kindOf(h:fi.scope.names.lookup x=some k):z.c.env.kindOf x=some k:=by
 show z.c.env.scope.names.lookup x=_;rw[z.ok.scope,z.fi];exact h
theorem Z.Yk(n:dY z.c τ ρ σ s):z.c.W.K.In s.heap:=by cases n with|mk st U=>exact z.q_ st
theorem Z.Gb(n:dY z.c τ ρ σ s):Top z.c.W.p z.c.W.loose z.c.W.KJ z.c.W.mg z.c.W.mb s.heap:=by cases n with|mk st U=>exact z.top st
theorem Z.glob{M:pj}(n:dY z.c τ ρ σ s)(hx:fi.scope.names.lookup x=some .globalImplicit)(e:nsIn z.c.W.K cv x=some (some v))(hd:(x==("__debug__"))=false)(h:Q v s):aO M A' (eval (.Name x pos) z.c.env) Q E s:=
 qn z.kind (z.kindOf hx) (loadGlobal_global (by rw[z.ok.globals];exact (z.Gb n).g) (mg_of (z.Yk n) (z.Gb n).g e) h) hd
theorem Z.bare{M:pj}(n:dY z.c τ ρ σ s)(hx:fi.scope.names.lookup x=some .globalImplicit)(hb:x∈kR)(hv:g_ x=some v)(hn:x≠"__name__")(hd:(x==("__debug__"))=false)(h:Q v s):aO M A' (eval (.Name x pos) z.c.env) Q E s:=
 qn z.kind (z.kindOf hx) (sC (by rw[z.ok.globals];exact (z.Gb n).g) (mg_none_of (z.Yk n) (z.Gb n).g (beq_iff_eq.mp (aJ.mp z.kf.bare x hb)))
  (by rw[z.ok.builtins];exact (z.Gb n).b) (by rw[(z.Gb n).builtins x hn];exact hv) h) hd
theorem Z.fn{a:Addr}(h:(x,a)∈o8):nsIn z.c.W.K cv x=some (some (.ref a))/\x4 z.c.W.K (.ref a)=true:=
 ⟨beq_iff_eq.mp (aj.mp (aJ.mp z.kf.fns _ h)).1,(aj.mp (aJ.mp z.kf.fns _ h)).2⟩
end
noncomputable def vn(B:Vw)(h:Heap):Vw:=λa=>(B a).elim (h.get? a) some
theorem qw(e:B a=some o):vn B h a=some o:=by unfold vn;rw[e];rfl
theorem qx(e:B a=none):vn B h a=h.get? a:=by unfold vn;rw[e];rfl
section
variable{c:Cx}
theorem jH(ok:c.Ok){a:Addr}(h:c.F a=none):c.W.base.get? a=none:=none_of λo e=>gr h (ok.base a o e)
theorem St.vn(st:St c κ ρ σ s)(ok:c.Ok):κ.le {κ with B:=Internal.vn κ.B c.W.base}/\Le (λa=>c.W.K.lookup a) (Internal.vn κ.B c.W.base)/\St c {κ with B:=Internal.vn κ.B c.W.base} ρ σ s:=by
 have hs:Sub (Internal.vn κ.B c.W.base) s.heap:=λa o e=>by
  cases hB:κ.B a with
  |none=>rw [qx hB] at e;exact st.kept _ _ (ok.base _ _ e)
  |some o'=>rw [qw hB] at e;cases e;exact st.know _ _ hB
 have hn:∀a,Free c κ a->Internal.vn κ.B c.W.base a=none:=λa f=>(qx f.B).trans (jH ok f.F)
 refine ⟨⟨rfl,(λa o e=>qw e),yM.refl _⟩,λa o e=>?_,st.EF (λa o e=>qw e) hs λa ha=>?_⟩
 ·have e:=ok.w.q_ _ _ e;cases hB:κ.B a with
  |none=>exact (qx hB).trans e
  |some o'=>
   obtain rfl:=aF ((st.know _ _ hB).symm.trans (st.kept _ _ (ok.base _ _ e)));exact qw hB
 ·rcases ha with ha|ha|⟨i,as,o,h1,h2,h3,h4⟩
  ·exact hn a (st.priv a ha).toFree
  ·exact (qx (st.hid a ha).B).trans (ok.hid a ha)
  ·exact hn a (st.cell i as o h1 h2 h3 a h4)
end
section
theorem aD.Yl(h:(x,l)∈strTab)(hx:fi.scope.names.lookup x=some .globalImplicit)(hd:(x==("__debug__"))=false):aD fi (.Name x pos) (eD (.str l)):=λz U U U U U U st g=>(z.kf.txts _ h).elim λU e=>z.glob st hx e hd (g _ _ (st.d λU=>⟨_,rfl⟩))
theorem aD.Sl(hx:fi.scope.names.lookup (ah "MOST_DIGITS")=some .globalImplicit):aD fi (.Name (ah "MOST_DIGITS") pos) (eD (.int 1000)):=λz U U U U U U st g=>z.kf.most.elim λU e=>z.glob st hx e (rfl) (g _ _ (st.d λU=>⟨_,rfl⟩))
theorem aD.Ym(h:(x,d)∈tX)(hx:fi.scope.names.lookup x=some .globalImplicit)(hd:(x==("__debug__"))=false):aD fi (.Name x pos) (eD d):=λz τ U U U U U st g=>(z.kf.tabs _ h).elim λU e=>z.glob st hx e.1 hd (by
 refine st.el λst ht=>?_
 obtain ⟨le,k,st⟩:=st.vn z.ok;exact g _ _ (.mk st ⟨RD.mono k _ e.2,τ.up le ht⟩))
theorem aD.Yn(h:(x,l)∈v_)(hx:fi.scope.names.lookup x=some .globalImplicit)(hd:(x==("__debug__"))=false):aD fi (.Name x pos) (eV (.dict l)):=λz τ U U U U U st g=>by
 refine cps λP9 k9=>?_
 obtain ⟨a,es,m,e,hq,hl,r⟩:=z.kf.dics _ h;refine k9 ?_;refine z.glob st hx e hd ?_;refine st.el @λκ st ht=>?_
 obtain ⟨le,k,st'⟩:=st.vn z.ok;exact g _ _ (.mk st' ⟨.mk rfl hq (k _ _ hl) ((st.P.P)▸F4.mono k r),τ.up le ht⟩)
end
noncomputable def isStar:Expr->Bool
 | .Starred .. =>true
 |_=>false
noncomputable abbrev d0(es:List Expr):Bool:=es.all λe=>!isStar e
theorem gA(h:isStar e=false):d7 (e::rest) env=(false,eval e env)::d7 rest env:=by
 cases e<;>first|rfl|cases h
theorem mK:d0 es=true->((iV pos (d7 es env)).any (·.1)||false)=false:=by
 induction es with
 |nil=>exact λU=>rfl
 |cons e rest ih=>
  intro h;refine (aj.mp (h)).elim λh1 h2=>?_
  exact (gA ((fw _).mp h1))▸ih h2
theorem sO{M:pj}{E:Pq Value}{f:Value}{env:aV}{Q:Args->aI->Prop}(hp:d0 es=true)(h:aO M A (spliced (iV pos (d7 es env))) (λvs s'=>Q ⟨vs,[]⟩ s') E s):aO M A (evalArgs f true (iV pos (d7 es env)) []) Q E s:=by
 cases es with
 |nil=>exact λΓ p hΓ=>evalArgs_nil3 (h Γ p hΓ) Γ p hΓ
 |cons e es=>
  rw[gA ((fw _).mp (aj.mp (hp)).1)] at h⊢;exact gQ h
theorem kY{M:pj}(hf:∀a,f≠ .ref a) h:gS M h (keeperOf f) .machine:=by
 cases f<;>first|exact gS.of_pure rfl|exact absurd rfl (hf _)
section
variable(z:Z fi)
theorem Ng{P:Heap->Prop}(hP:∀{τ:cO} {σ:Store} {s:aI},dY z.c τ ρ σ s->P s.heap)(hk:∀h,P h->∃k,(k=Keeper.frame\/k=Keeper.machine\/k=Keeper.boundFrame)/\gS z.M h (keeperOf f) k)(h:c5 fi es m)(hp:d0 es=true)(st:dY z.c τ ρ σ s)
  (g:Go (m z.C ρ σ) (KL z.c τ ρ λvs s=>aO z.M z.A (call f (first++vs)) Q E s) (KE z.c ρ E)):aO z.M z.A (ku pos f first (iV pos (d7 es z.c.env)) []) Q E s:=
 i9 (mK hp) hk (sO hp (h z pos st (g.mono (λU U g vs s st=>⟨hP st,g vs s st⟩) λU g=>g)))
theorem EM(hk:x4 z.c.W.K f=true)(h:c5 fi es m)(hp:d0 es=true)(st:dY z.c τ ρ σ s)(g:Go (m z.C ρ σ) (KL z.c τ ρ λvs s=>aO z.M z.A (call f (first++vs)) Q E s) (KE z.c ρ E)):aO z.M z.A (ku pos f first (iV pos (d7 es z.c.env)) []) Q E s:=Ng z z.Yk (keeps_K hk) h hp st g
theorem BB(hf:∀a,f≠ .ref a)(h:c5 fi es m)(hp:d0 es=true)(st:dY z.c τ ρ σ s)(g:Go (m z.C ρ σ) (KL z.c τ ρ λvs s=>aO z.M z.A (call f (first++vs)) Q E s) (KE z.c ρ E)):aO z.M z.A (ku pos f first (iV pos (d7 es z.c.env)) []) Q E s:=Ng z (P:=λU=>True) (λU=>trivial) (λh U=>⟨.machine,.inr (.inl rfl),kY hf h⟩) h hp st g
end
noncomputable def BC(f:Nat)(m:MAs):ME:=λC ρ=>(m C ρ).bind (C.call f)
theorem aD.call{fi:FI}{a:Addr}{p pos:Pos}(hf:(x,a)∈o8)(hx:fi.scope.names.lookup x=some .globalImplicit)(h:c5 fi es m)(hp:d0 es=true)(hd:(x==("__debug__"))=false):aD fi (.Call (.Name x p) es [] pos) (BC a m):=λz U U U U U U st g=>
 i_ rfl (z.glob st hx (z.fn hf).1 hd (EM z (z.fn hf).2 h hp st (g.seq λU U g U U st=>z.call _ _ rfl z.ok z.a _ _ _ _ _ _ _ _ _ st g)))
noncomputable def lE(v:Value)(op:List V->M V):Prop:=∀{fi:FI} (z:Z fi) {τ:cO} {ρ:Env} {σ:Store} {s:aI} {Q E:Pq Value} {vs:List Value} {ls:List V},dY z.c (τ.vs vs ls) ρ σ s->Go (op ls σ) (KV z.c τ ρ Q) (KE z.c ρ E)->aO z.M z.A (aM v vs) Q E s
noncomputable def Yo(op:List V->M V)(m:MAs):ME:=λC ρ=>(m C ρ).bind op
theorem aD.Yp{fi:FI}{v:Value}{p pos:Pos}{op:List V->M V}(ho:lE v op)(hb:x∈kR)(hv:g_ x=some v)(hx:fi.scope.names.lookup x=some .globalImplicit)(h:c5 fi es m)
  (hr:∀a,v≠ .ref a) (hp:d0 es=true) (hn:x≠"__name__") (hd:(x==("__debug__"))=false):aD fi (.Call (.Name x p) es [] pos) (Yo op m):=λz U U U U U U st g=>
 i_ rfl (z.bare st hx hb hv hn hd (BB z hr h hp st (g.seq λU U g U U st=>ho z st g)))
noncomputable def jI(id:String)(f:V->List V->M V):Prop:=∀{fi:FI} (z:Z fi) {τ:cO} {ρ:Env} {σ:Store} {s:aI} {Q E:Pq Value} {v:Value} {x:V} {vs:List Value} {ls:List V},dY z.c ((τ.v v x).vs vs ls) ρ σ s->Go (f x ls σ) (KV z.c τ ρ Q) (KE z.c ρ E)->aO z.M z.A (aM (.builtin id) (v::vs)) Q E s
noncomputable def mL{α:Type}:List (Nat×α)->Nat->Option α
 |[],_=>none
 |p::r,x=>if p.1=x then some p.2 else mL r x
noncomputable def Yq(i k:Nat):M V:=λσ=>O.eH σ[i]? (λU l=>M.opt (mL l k)) M.no σ
noncomputable def BD(k:Nat)(x:V):M V:=x.jA (λi=>Yq i k)<|x.eH (λc l=>if sH c k then M.opt ((mL l k).map .d) else M.no) M.no
theorem O.wg{γ:Type}{o:Option O}{f:Nat->List (Nat×V)->M γ}{σ:Store}{K:γ->Store->Prop}{X:Int->Prop}(g:Go (O.eH o f M.no σ) K X):∃c l,o=some (.inst c l)/\Go (f c l σ) K X:=by
 cases o with
 |none=>exact g.elim
 |some o=>cases o with
  |inst c l=>exact ⟨c,l,rfl,g⟩
  |_=>exact g.elim
theorem yT:∀i≤12,∀j≤12,du i=du j->i=j:=by decide
theorem HU:∀p∈Bk,p.1<=2/\p.2<=12:=by decide
theorem mj{c k:Nat}(h:sH c k=true):c<=2/\k<=12:=HU (c,k) (of_decide_eq_true h)
theorem t9 name e es(h:e.key.isStr name=false)(hr:e.refKey=false):getL name (e::es)=getL name es:=by
 unfold getL;rw[List.find?_cons_of_neg (by rw[h];exact si),List.any_cons,hr,Bool.false_or]
theorem yU(name:Str)(e:bh)(es:List bh)(h:e.key.isStr name=true):getL name (e::es)=some (some e.val):=by
 unfold getL;rw[show (e::es).find? (·.key.isStr name)=some e from List.find?_cons_of_pos h]
theorem ly(a b:Str)(t:Tok):(Hj a t).isStr b=(a==b):=by rw[isStr_of];rfl
theorem En.step{δ:Type}{R:Value->δ->Prop}{e:bh}{p:Nat×δ}(q:En du F3 R e p)(es:List bh)(name:Str):(du p.1=name->getL name (e::es)=some (some e.val))/\(du p.1≠name->getL name (e::es)=getL name es):=by
 refine q.el λh1 h2 h3=>⟨λh=>yU _ _ _ (by rw[h2,ly];exact beq_iff_eq.mpr h),λh=>t9 _ _ _ (by rw[h2,ly];exact beq_eq_false_iff_ne.mpr h) ?_⟩
 show (match e.key with| .ref _=>true|_=>false)=false
 simp only [h2]
theorem En.val{κ δ:Type}{ky:κ->Str}{ok:κ->Int->Prop}{R:Value->δ->Prop}{e:bh}{p:κ×δ}(q:En ky ok R e p):R e.val p.2:=by cases q with|mk U J h=>exact h
theorem En.ok{κ δ:Type}{ky:κ->Str}{ok:κ->Int->Prop}{R:Value->δ->Prop}{e:bh}{p:κ×δ}(q:En ky ok R e p):ok p.1 e.hash:=by cases q with|mk h U J=>exact h
theorem En.at{δ:Type}{R:Value->δ->Prop}{k:Nat}(hk:k<=12){l:List (Nat×δ)}:∀{es:List bh},dp (En du F3 R) es l->(mL l k).elim (getL (du k) es=some none) λd=>∃v,getL (du k) es=some (some v)/\R v d:=by
 induction l with
 |nil=>exact λh=>by rw[show _=[] from h];rfl
 |cons p l ih=>
  intro es h;refine kJ.elim (G:=λes=>(mL (p::l) k).elim (getL (du k) es=some none) λd=>∃v,getL (du k) es=some (some v)/\R v d) h λe t q r=>?_
  show ((if p.1=k then some p.2 else mL l k).elim _ _)
  by_cases h:p.1=k
  ·rw[if_pos h];exact ⟨_,(q.step t _).1 (congrArg du h),q.val⟩
  ·rw[if_neg h,(q.step t _).2 λe=>h (yT _ q.ok _ hk e)]
   exact ih r
theorem En.noName{δ:Type}{R:Value->δ->Prop}{c:Nat}{name:Str}(hn:∀k,sH c k=true->du k≠name){l:List (Nat×δ)}:∀{es:List bh},dp (En du F3 R) es l->(∀p∈l,sH c p.1=true)->getL name es=some none:=by
 induction l with
 |nil=>exact λh U=>by rw[show _=[] from h];rfl
 |cons p l ih=>exact λh k=>kJ.elim (G:=λes=>getL name es=some none) h λe t q r=>((q.step t _).2 (hn _ (k _ (.head _)))).trans (ih r λp hp=>k p (.tail _ hp))
theorem RD.handed{B:Vw}{v:Value}(d:D)(h:RD B v d):nV v=true:=by
 cases d with
 |none=>cases h;rfl
 |bool b=>cases h;rfl
 |int i=>obtain ⟨U,rfl⟩:=h;rfl
 |str l=>obtain ⟨U,rfl⟩:=h;rfl
 |tup l=>obtain ⟨U,rfl⟩:=wj h;rfl
 |list l=>obtain ⟨U,rfl⟩:=wj h;rfl
theorem RV.handed{κ:View}{v:Value}(d:V)(h:RV κ v d):nV v=true:=by
 cases d with
 |d d=>exact RD.handed d h
 |any w=>exact h.2
 |obj i=>cases h with|mk e=>rw [e];rfl
 |tup l=>obtain ⟨U,rfl⟩:=wj h;rfl
 |raw l=>obtain ⟨U,rfl⟩:=wj h;rfl
 |dict l=>cases h with|mk e=>rw [e];rfl
 |inst c l=>cases h with|mk e=>rw [e];rfl
 |exc k=>cases h with|mk e=>rw [e];rfl
theorem vV{h:Heap}{a dx:Addr}{C:Addr}{es:List bh}{n:Nat}(h1:h.get? a=some (mC C dx))(h2:h.get? dx=some (dh es n)):InstAt h a (mC C dx) C (some (dh es n)):=⟨h1,rfl,rfl,h2⟩
structure ClsAt(K:Frag)(c:Nat):Prop where
 get:∀name,tO K (dq c) name=true
 dict:uK K (dq c)=true
 over:zF K (dq c)=true
 set:gq K (.ref (dq c)) "__setattr__"=some (some (.builtin "object.__setattr__"))
theorem KF.clsAt{P:hY}{K:Frag}(kf:KF P K){c:Nat}(h:c<=2):ClsAt K c:=by
 have:=aJ.mp kf.cls c (by match c,h with|0,_=>decide|1,_=>decide|2,_=>decide)
 exact ⟨λU=>(aj.mp this).1,(aj.mp (aj.mp this).2).1,(aj.mp (aj.mp (aj.mp this).2).2).1,beq_iff_eq.mp (aj.mp (aj.mp (aj.mp this).2).2).2⟩
theorem KF.attr{P:hY}{K:Frag}(kf:KF P K){c k:Nat}(h:sH c k=true):gq K (.ref (dq c)) (du k)=some none/\takerIn K (dq c) (du k)=some none:=
 ⟨beq_iff_eq.mp (aj.mp (aJ.mp kf.attrs (c,k) (of_decide_eq_true h))).1,beq_iff_eq.mp (aj.mp (aJ.mp kf.attrs (c,k) (of_decide_eq_true h))).2⟩
theorem BE{α:Type}{k:Nat}{d:α}{l:List (Nat×α)}:mL l k=some d->(k,d)∈l:=by
 induction l with
 |nil=>exact nofun
 |cons p r ih=>
  intro h
  by_cases e:p.1=k
  ·cases (if_pos e).symm.trans h;rw[<-e];exact .head _
  ·exact .tail _ (ih ((if_neg e).symm.trans h))
theorem St.EN{c:Cx}{κ:View}{ρ:Env}{σ:Store}{s:aI}{a:Value}{G:Value->Prop}(x:St c κ ρ σ s){i cl:Nat}{l:List (Nat×V)}(h:σ[i]? =some (.inst cl l))(r:jy κ.ι a i)(k:∀b dx es n,κ.ι[i]? =some [b,dx]->s.heap.get? b=some (mC (dq cl) dx)->s.heap.get? dx=some (dh es n)->Bc κ es l->(l.map (·.1)).Nodup->(∀p∈l,sH cl p.1=true)->G (.ref b)):G a:=by
 refine r.el λe ha=>(x.store i _ h).el λhb ro=>?_
 obtain rfl:=aF (ha.symm.trans hb);refine ro.el λe2 hg h2 hr n m=>?_
 obtain ⟨rfl,rfl⟩:=c6 e2;simp only [e];exact k _ _ _ _ hb hg h2 hr n m
theorem K7(k:Nat)(hk:k<=12):EH (λv=>o5 v (du k) true) (BD k):=λz τ ρ σ s Q E a x n h=>n.one λκ st ra ht=>by
 have key:∀{b dx:Addr} {es:List bh} {n c:Nat} {δ:Type} {R:Value->δ->Prop} {l:List (Nat×δ)} {d:δ},s.heap.get? b=some (mC (dq c) dx)->s.heap.get? dx=some (dh es n)->dp (En du F3 R) es l->sH c k=true->mL l k=some d->(∀v,R v d->nV v=true)->(∀v,R v d->Q v {s with toks:=s.toks+1})->
   aO z.M z.A (o5 (.ref b) (du k) true) Q E s:=λh1 h2 r hok hd hh hq=>by
  have f:=En.at hk r;rw[hd] at f
  obtain ⟨v,hg,hv⟩:=f;exact get_value (z.q_ st) (vV h1 h2) (ve ((z.kf.clsAt (mj hok).1).get (du k))).1 (findObj_own (z.kf.clsAt (mj hok).1).dict (z.kf.attr hok).1 rfl hg) (hh _ hv) (hq _ hv)
 refine ra.tZ h (λi ra h=>?_) λh=>ra.wg h (λc l ra h=>?_) aC
 ·obtain ⟨c,l,hl,h⟩:=O.wg h;obtain ⟨d,hd,h⟩:=h.opt;exact st.EN (G:=z.g s Q E λv=>o5 v (du k) true) hl ra λb dx es n U h1 h2 r U m=>key h1 h2 r (m _ (BE hd)) hd (λU=>RV.handed _) λv hv=>h _ _ (.mk (st.tok _) ⟨hv,ht⟩)
 ·obtain ⟨hok,h⟩:=h.ite;obtain ⟨d,hd,h⟩:=h.Di;exact ra.el λe e1 e2 r=>e▸key (st.know _ _ e1) (st.know _ _ e2) r hok hd (λU=>RD.handed _) λv hv=>h _ _ (.mk (st.tok _) ⟨hv,ht⟩)
noncomputable def Nh(k:Nat)(m:ME):ME:=R8 (BD k) m
theorem aD.attr{fi:FI}{value:Expr}{x:Str}{k:Nat}{pos:Pos}{m:ME}(h:aD fi value m)(hx:x=du k)(hk:k<=12)
  (he:∀env:aV,eval (.Attribute value x pos) env=(do
   let o<-eval value env
   f' pos.atName
   let r<-g9 [o] (o5 o x true)
   x9 value o r
   pure r)):aD fi (.Attribute value x pos) (Nh k m):=λz U U U U U U st g=>by
 subst hx;exact x_ (h z st (g.seq λU U g U U st=>K7 k hk z st g)) (he _)
theorem Dl:∀p∈wa,∀q∈Bk,p.1=q.1->du q.2≠p.2.1:=by decide
noncomputable def eH{α:Type}(c:Nat)(v:V)(k:M α):M α:=v.jA (λi σ=>O.eH σ[i]? (λc' U=>if c'=c then k else M.no) M.no σ) M.no
noncomputable def Ni(cl f:Nat)(o:ME)(m:MAs):ME:=λC ρ=>(o C ρ).bind λv=>eH cl v ((m C ρ).bind λls=>C.call f (v::ls))
theorem aD.Yr{fi:FI}{o:Expr}{name:Str}{cl f:Nat}{es:List Expr}{apos pos:Pos}{mo:ME}{m:MAs}(hm:(cl,name,f)∈wa)(ho:aD fi o mo)(h:c5 fi es m)(hp:d0 es=true)
  (pl:Expr->aV->Sem Bool) (he:∀env:aV,eval (.Call (.Attribute o name apos) es [] pos) env=(do
   let ov<-eval o env
   f' apos.atName
   let (f,first)<-g9 [ov] (gj ov name (pl o env))
   ku pos f first (iV pos (d7 es env)) (nZ pos (ja [] env)))):
  aD fi (.Call (.Attribute o name apos) es [] pos) (Ni cl f mo m):=λz τ ρ U U Q E st g=>
 rC (ho z st (g.seq λx σ g v s n=>n.one λκ st rv ht=>rv.tZ g (λi ro g=>by
  refine cps λP9 k9=>?_
  obtain ⟨c',l,hl,g1⟩:=O.wg g;obtain ⟨rfl,g2⟩:=g1.ite;refine k9 ?_;have h1:=aj.mp (aJ.mp z.kf.meths _ hm);refine st.EN (G:=λv=>RV κ v x->aO z.M z.A (gj v name _) (λfx s₂=>aO z.M z.A (ku pos fx.1 fx.2 (iV pos (d7 es z.c.env)) (nZ pos (ja [] z.c.env))) Q E s₂) E s) hl ro (λb dx RN n hi e1 e2 r U RP rv=>?_) rv
  refine method_fn (z.q_ st) (vV e1 e2) (ve h1.1).1 (ve h1.1).2 (beq_iff_eq.mp (aj.mp h1.2).1) (beq_iff_eq.mp (aj.mp (aj.mp h1.2).2).1) ?_ ?_
  ·show (lookIn name (dh RN n)).map _=_;simp only [lookIn_dict,show getL name RN=some bc from En.noName (λk hk=>Dl (c',name,f) hm (c',k) (of_decide_eq_true hk) rfl) r RP];rfl
  ·exact EM z (aj.mp (aj.mp h1.2).2).2 h hp (τ:=τ.v (.ref b) x) (.mk st ⟨rv,ht⟩) (g2.seq λls U g vs U st=>z.call _ _ rfl z.ok z.a _ _ _ _ _ _ (x::ls) _ _ (st.le λU h=>⟨.mk rfl h.2.1 h.1,h.2.2⟩) g)) aC)) (he _)
theorem wu{ι:Ads}(nd:ι.flatten.Nodup){a:Addr}:∀{i j:Nat} {x y:List Addr},ι[i]? =some x->ι[j]? =some y->a∈x->a∈y->i=j:=by
 induction ι with
 |nil=>exact λh=>nomatch h
 |cons z r ih=>
  intro i j x y hi hj hx hy;cases i with
  |zero=>
   cases j with
   |zero=>rfl
   |succ j=>cases hi;exact absurd rfl ((bz.mp (dJ▸nd)).2.2 a hx a (dU (i:=j) hj hy))
  |succ i=>
   cases j with
   |zero=>cases hj;exact absurd rfl ((bz.mp (dJ▸nd)).2.2 a hy a (dU (i:=i) hi hx))
   |succ j=>exact congrArg nL (ih (bz.mp (dJ▸nd)).2.1 hi hj hx hy)
section
structure Ys(c:Cx)(κ:View)(h h':Heap)(D:Addr->Prop):Prop where
 F:∀b,D b->c.F b=none
 B:∀b,D b->κ.B b=none
 hid:∀b,D b->b∉c.hid
 at_:∀b,D b->(h'.get? b).isSome
 keep:∀b o,fP c κ b->¬D b->h.get? b=some o->h'.get? b=some o
theorem St.chg(x:St c κ ρ σ s)(ok:c.Ok){D:Addr->Prop}{h':Heap}{tk:Tok}{ρ':Env}{σ':Store}(d:Ys c κ s.heap h' D)(vars:fh c κ ρ' h')(cells:∀x a,c.env.cells.lookup x=some a->∃v,h'.IsCell a v)(pl:ρ'.length=ρ.length)(len:σ'.length=σ.length)
  (cell:∀(i:Nat) (as:List Addr) (o:O),κ.ι[i]? =some as->σ'[i]? =some o->o.isDead=false->∀a∈as,Free c κ a) (store:∀(i:Nat) (o:O),σ'[i]? =some o->n6 κ h' i o):St c κ ρ' σ' {s with heap:=h',toks:=tk}:=by
 have mH:∀b,b∈c.hid->fP c κ b:=λb e=>.inr (.inr (.inr (.inl e)))
 exact {
     P:=x.P,rest:=x.rest
     kept:=λb o e=>d.keep b o (.inl (isSome_of e)) ((λb o e q=>gr (d.F b q) e) b o e) (x.kept b o e)
     know:=λb o e=>d.keep b o (.inr (.inl (isSome_of e))) (λq=>gr (d.B b q) e) (x.know b o e)
     outer:=λq hq=>⟨λL hL=>by
      refine cps λP9 k9=>?_
      obtain ⟨o,ho,hd⟩:=(x.outer q hq).at_ L hL;obtain ⟨-, -,L',RL,hh, -⟩:=ok.outs q hq;refine k9 ?_;exact ⟨o,d.keep L o (mH L ((aF (hL.symm.trans RL))▸hh)) (λq=>d.hid L q ((aF (hL.symm.trans RL))▸hh)) ho,hd⟩⟩
     hid:=λa ha=>⟨(x.hid a ha).B,(x.hid a ha).ι,(λb hb=>(tE (D b)).elim (d.at_ b) λnd=>some_at (x.lt hb) λo e=>isSome_of (d.keep b o hb nd e)) a (mH a ha)⟩
     priv:=λa ha=>⟨(x.priv a ha).toFree,(λb hb=>(tE (D b)).elim (d.at_ b) λnd=>some_at (x.lt hb) λo e=>isSome_of (d.keep b o hb nd e)) a (.inr (.inr (.inl ha)))⟩
     cell:=cell,there:=λa ha=>(λb hb=>(tE (D b)).elim (d.at_ b) λnd=>some_at (x.lt hb) λo e=>isSome_of (d.keep b o hb nd e)) a (.inr (.inr (.inr (.inr ha)))),nodup:=x.nodup,vars:=vars,cells:=cells,plen:=pl.trans x.plen,len:=x.len.trans len.symm,store:=store}
theorem fQ(x:St c κ ρ σ s)(ha:a∈c.own)(hb:b∈κ.ι.flatten):a≠b:=(bz.mp x.nodup).2.2 a ha b hb
theorem St.BF(st:St c κ ρ σ s)(ok:c.Ok){i:Nat}{o o':O}(hi:κ.ι[i]? =some as)(ho:σ[i]? =some o)(hd:o.isDead=false){tk:Tok}(hv:jd c κ ρ s.heap m)(hn:h'.Ns c.env.locals m)
  (k:∀b x,b∉as->b≠c.env.locals->s.heap.get? b=some x->h'.get? b=some x) (hs:∀a∈as,(h'.get? a).isSome) (ro:RO κ h' as o'):St c κ ρ (σ.set i o') {s with heap:=h',toks:=tk}:=by
 have fr:=st.cell i as o hi ho hd;have nc:∀y a,c.env.cells.lookup y=some a->a∉as/\a≠c.env.locals:=λy a h=>⟨λhm=>(ok.cellIn y a h).elim (λq=>(λa ha hm=>fQ st ha (dU hi hm) rfl) a q hm) (gu (fr a hm).F),ok.cellOff y a h⟩
 have d:Ys c κ s.heap h' λb=>b∈as\/b=c.env.locals:={
  F:=λb q=>q.elim (λq=>(fr b q).F) λq=>q▸(st.priv _ ok.loc).F
  B:=λb q=>q.elim (λq=>(fr b q).B) λq=>q▸(st.priv _ ok.loc).B
  hid:=λb q hb=>q.elim (λq=>(st.hid b hb).ι (dU hi q)) λq=>ok.apart _ ok.loc (q▸hb)
  at_:=λb q=>q.elim (hs b) λq=>by obtain ⟨o,U,U,e, -⟩:=hn;rw[q,e];rfl
  keep:=λb x U q=>k b x (λh=>q (.inl h)) λh=>q (.inr h)}
 refine st.chg ok d (.mk hn λj y v h1 h2=>?_) (λy a h=>?_) rfl (iG ..) (λj bs x hj hx Yt=>?_) λj x hx=>?_
 ·obtain ⟨rv,Bm,hr⟩:=hv j y v h1 h2;exact ⟨rv,Bm.imp id λ⟨q,a,ha,x,hx,r⟩=>⟨q,a,ha,x,k a x (nc y a ha).1 (nc y a ha).2 hx,r⟩,hr⟩
 ·obtain ⟨v,x,hx,r⟩:=st.cells y a h;exact ⟨v,x,k a x (nc y a h).1 (nc y a h).2 hx,r⟩
 ·by_cases e:i=j
  ·subst e;obtain rfl:=aF (hi.symm.trans hj);exact fr
  ·exact st.cell j bs x hj ((cn e).symm.trans hx) Yt
 ·by_cases e:i=j
  ·subst e;obtain rfl:=aF ((dD (aL.mp ho).1).symm.trans hx);exact .mk hi ro
  ·exact (st.store j x ((cn e).symm.trans hx)).el λhb r=>.mk hb (RO.mono (View.le.refl κ) (λa ha x'=>k a x' (λq=>e (wu (bz.mp st.nodup).2.1 hi hb q ha)) λq=>fQ st ok.loc (dU hb ha) q.symm) x r)
theorem St.zV(st:St c κ ρ σ s)(ok:c.Ok)(hi:κ.ι[i]? =some as)(ho:σ[i]? =some o)(hd:o.isDead=false)(k:∀b x,b∉as->s.heap.get? b=some x->h'.get? b=some x)(hs:∀a∈as,(h'.get? a).isSome)(ro:RO κ h' as o'):St c κ ρ (σ.set i o') {s with heap:=h',toks:=tk}:=st.vars.el λhm hv=>st.BF ok hi ho hd hv (hm.at' λx e=>k _ x (λq=>fQ st ok.loc (dU hi q) rfl) e) (λb x hb U e=>k b x hb e) hs ro
theorem zW{α:Type}{l:List α}{a b:α}{j:Nat}(h:(l++[a])[j]? =some b):l[j]? =some b\/(j=l.length/\b=a):=by
 rcases oM j l.length with q|q
 ·exact .inl ((dG q).symm.trans h)
 ·rw[aY q] at h;cases e:j - l.length with
  |zero=>rw [e] at h;cases h;exact .inr ⟨Nat.le_antisymm (Nat.le_of_sub_eq_zero e) q,rfl⟩
  |succ n=>rw [e] at h;cases h
theorem Gc{α:Type}(l:List α)(a:α):(l++[a])[l.length]? =some a:=by rw[aY (ax _),dc];rfl
noncomputable def View.push(κ:View)(as:List Addr):View:={κ with ι:=κ.ι++[as]}
theorem View.kZ(κ:View)(as:List Addr):κ.le (κ.push as):=⟨rfl,Le.refl _,yM.push _ _⟩
theorem Free.push{a:Addr}{as:List Addr}(f:Free c κ a):Free c (κ.push as) a:=⟨f.F,f.B⟩
theorem St.adopt(st:St c κ ρ σ s)(ok:c.Ok){as:List Addr}{o:O}{h':Heap}{tk:Tok}(out:∀a∈as,¬fP c κ a)(k:∀b x,b∉as->s.heap.get? b=some x->h'.get? b=some x)(hn:as.Nodup)(hf:∀a∈as,(h'.get? a).isSome)
  (ro:RO (κ.push as) h' as o):(κ.push as).ι[σ.length]? =some as/\St c (κ.push as) ρ (σ++[o]) {s with heap:=h',toks:=tk}:=by
 have x:=st.keep (tk:=tk) ok λb x m=>k b x λq=>out b q m
 have e0:(κ.push as).ι.flatten=κ.ι.flatten++as:=bJ.trans (congrArg (κ.ι.flatten++·) (au as));have e1:(κ.push as).ι[σ.length]? =some as:=st.len▸Gc κ.ι as
 refine ⟨e1,{
        P:=⟨x.P.le.trans (View.kZ κ as),x.P.P⟩,rest:=x.rest,kept:=x.kept,know:=x.know,outer:=x.outer,priv:=λa ha=>⟨(x.priv a ha).toFree.push,(x.priv a ha).at_⟩,vars:=x.vars.le (View.kZ κ as),cells:=x.cells,plen:=x.plen
        hid:=λa ha=>⟨(x.hid a ha).B,?_,(x.hid a ha).at_⟩,cell:=λj bs y hj hy hd a ha=>?_,there:=λa ha=>?_,nodup:=?_,len:=?_,store:=λj y hy=>?_}⟩
 ·rw[e0];exact λq=>(bf.mp q).elim (x.hid a ha).ι λq=>out a q (.inr (.inr (.inr (.inl ha))))
 ·rcases zW hj with q|⟨-,rfl⟩
  ·refine (x.cell j bs y q ((zW hy).elim id λe=>?_) hd a ha).push
   exact absurd (aL.mp q).1 (by rw[e.1,<-st.len];exact iq _)
  ·exact ⟨none_of λo e=>out a ha (.inl (isSome_of e)),none_of λo e=>out a ha (.inr (.inl (isSome_of e)))⟩
 ·rw[e0] at ha;exact (bf.mp ha).elim (x.there a) (hf a)
 ·rw[e0,<-ai];refine bz.mpr ⟨st.nodup,hn,λa ha b hb e=>out b hb ?_⟩
  subst e;exact (bf.mp ha).elim (λq=>.inr (.inr (.inl q))) λq=>.inr (.inr (.inr (.inr q)))
 ·exact (ae.trans (congrArg (·+1) st.len)).trans ae.symm
 ·rcases zW hy with q|⟨rfl,rfl⟩
  ·exact (x.store j y q).le (View.kZ κ as)
  ·exact .mk e1 ro
theorem St.EO(st:St c κ ρ σ s)(ok:c.Ok)(k:∀b x,s.heap.get? b=some x->h'.get? b=some x)(hn:as.Nodup)(hf:∀a∈as,s.heap.objs.size<=a/\(h'.get? a).isSome)
  (ro:RO (κ.push as) h' as o):(κ.push as).ι[σ.length]? =some as/\St c (κ.push as) ρ (σ++[o]) {s with heap:=h',toks:=tk}:=
 st.adopt ok (λa ha m=>old_ne (st.lt m) (hf a ha).1) (λb x U=>k b x) hn (λa ha=>(hf a ha).2) ro
theorem St.Nj(st:St c κ ρ σ s)(ok:c.Ok)(hj:σ[j]? =some o)(hd:o.isDead=false)(ro:∀as,RO κ s.heap as o->RO κ s.heap as o'):St c κ ρ (σ.set j o') s:=(st.store j o hj).el λha r=>st.zV ok ha hj hd (λU U U e=>e) (λa h=>st.there a (dU ha h)) (ro _ r)
theorem St.Dm(st:St c κ ρ σ s)(ok:c.Ok)(ha:a∈c.own)(hs:Heap.SameBut a s.heap h')(yV:(h'.get? a).isSome)(hlen:ρ'.length=ρ.length)(vars:fh c κ ρ' h')(cells:∀x b,c.env.cells.lookup x=some b->∃v,h'.IsCell b v):
  St c κ ρ' σ {s with heap:=h',toks:=tk}:=
 st.chg ok ({F:=λb q=>q▸(st.priv a ha).F,B:=λb q=>q▸(st.priv a ha).B,hid:=λb q hb=>ok.apart a ha (q▸hb),at_:=λb q=>q▸yV,keep:=λb o U q e=>(hs.2 b q).trans e}:Ys c κ s.heap h' λb=>b=a) vars cells hlen rfl st.cell λi o e=>(st.store i o e).el λh1 r=>.mk h1 (RO.mono (View.le.refl κ) (λb hb o' e=>(hs.2 b λq=>fQ st ha (dU h1 hb) q.symm).trans e) o r)
end
theorem jd.set(ok:c.Ok)(hx:c.fi.vars[i]? =some x)(hv:jd c κ ρ h m)(r:RV κ v y)(now:rc c h' m' x v)
  (old:∀z,z≠x->∀rv,rc c h m z rv->rc c h' m' z rv):jd c κ (ρ.set i (some y)) h' m':=λj z w h1 h2=>by
 by_cases Yu:i=j
 ·subst Yu;obtain rfl:=aF (hx.symm.trans h1);have hl:i<ρ.length:=by rw[<-iG];exact (aL.mp h2).1
  cases (dD hl).symm.trans h2;exact ⟨v,now,r⟩
 ·obtain ⟨rv,k1,k2⟩:=hv j z w h1 ((cn Yu).symm.trans h2);refine ⟨rv,old z (λe=>Yu ?_) rv k1,k2⟩
  subst e;obtain ⟨i1,i2⟩:=aL.mp hx;obtain ⟨j1,j2⟩:=aL.mp h1;exact (uB ok.vars).mp (i2.trans j2.symm)
structure sP(fi:FI)(i:Nat)(x:Str):Prop where
 at_:fi.vars[i]? =some x
 kind:fi.scope.names.lookup x=some .local\/fi.scope.names.lookup x=some .cell
theorem sQ{h:Heap}{m:Str->Option Value}(n:h.Ns L m):(h.get? L).isSome:=n.elim λU n=>n.elim λU n=>n.elim λU n=>isSome_of n.1
section
variable{fi:FI}(z:Z fi){τ:cO}{M:pj}
theorem Z.store(hx:sP fi i x)(n:dY z.c (τ.v v y) ρ σ s)(h:∀s',dY z.c (τ.v v y) (ρ.set i (some y)) σ s'->Q () s'):aO M A' (storeName z.c.env x v) Q E s:=by
 refine cps λP9 k9=>?_
 have hx':z.c.fi.vars[i]? =some x:=by rw[z.fi];exact hx.at_
 refine n.el λst r=>st.vars.el λhm hv=>?_
 rcases hx.kind with hk|hk
 ·have hk':=z.kindOf hk;refine k9 ?_
  refine wpAny_storeName_local hk' hm (λh' hn hs=>h _ (.mk ?_ r)) (by rw[z.kind];rfl)
  have Nk:∀u b w,z.c.env.cells.lookup u=some b->s.heap.IsCell b w->h'.IsCell b w:=λu b w hu ⟨o,ho,hd⟩=>⟨o,(hs.2 b (z.ok.cellOff u b hu)).trans ho,hd⟩
  exact st.Dm z.ok z.ok.loc hs (sQ hn) (iG ..) (.mk hn (hv.set z.ok hx' r.1 (.inl ⟨hk',if_pos rfl⟩) λu hu rv Yv=>Yv.imp (λq=>⟨q.1,(if_neg hu).trans q.2⟩) λ⟨q,b,h2,h3⟩=>⟨q,b,h2,Nk u b _ h2 h3⟩)) λu b hu=>(st.cells u b hu).elim λw hw=>⟨w,Nk u b w hu hw⟩
 ·have hk':=z.kindOf hk;refine (z.ok.cellHas x hk').elim λa ha=>(st.cells x a ha).elim λw hw=>k9 ?_
  refine wpAny_storeName_cell z.kind hk' ha hw λh' hn hs=>h {s with heap:=h'} (.mk ?_ r)
  refine st.Dm z.ok (z.ok.cellOwn x a ha hk') hs (hn.elim λo q=>isSome_of q.1) (iG ..) (.mk (hm.at' λo e=>(hs.2 _ (jp (z.ok.cellOff x a ha))).trans e) (hv.set z.ok hx' r.1 (.inr ⟨.inl hk',a,ha,hn⟩) λu hu rv Yv=>Yv.imp id λ⟨q,b,h2,o,ho,hd⟩=>⟨q,b,h2,o,(hs.2 b λe=>hu (z.ok.cellOne u x b h2 (e▸ha))).trans ho,hd⟩)) λu b hu=>?_
  by_cases e:b=a
  ·exact ⟨_,e▸hn⟩
  ·exact (st.cells u b hu).elim λw ⟨o,ho,hd⟩=>⟨w,o,(hs.2 b e).trans ho,hd⟩
end
section
variable{α:Type}
noncomputable def Dn(l:List V)(k z:α):α:=l.casesOn (motive:=λU=>α) k λU U=>z
noncomputable def kB(l:List V)(k:V->α)(z:α):α:=l.casesOn (motive:=λU=>α) z λx r=>Dn r (k x) z
noncomputable def oh(l:List V)(k:V->V->α)(z:α):α:=l.casesOn (motive:=λU=>α) z λx r=>kB r (k x) z
noncomputable def K8(l:List V)(k:V->V->V->α)(z:α):α:=l.casesOn (motive:=λU=>α) z λx r=>oh r (k x) z
end
section
variable{γ:Type}{τ:cO}{K:γ->Store->Prop}{G:List Value->Prop}{z:M γ}
theorem dY.Dn(n:dY c (τ.vs vs ls) ρ σ s)(h:Go (Dn ls f z σ') K X)(k:dY c τ ρ σ s->Go (f σ') K X->G [])(k':Go (z σ') K X->G vs):G vs:=by
 cases ls with
 |nil=>cases n with|mk st r=>rw [show vs=[] from r.1];exact k (.mk st r.2) h
 |cons x r=>exact k' h
theorem dY.kB(n:dY c (τ.vs vs ls) ρ σ s)(h:Go (kB ls f z σ') K X)(k:∀v x,dY c (τ.v v x) ρ σ s->Go (f x σ') K X->G [v])(k':Go (z σ') K X->G vs):G vs:=by
 cases ls with
 |nil=>exact k' h
 |cons x r=>cases n with|mk st w=>cases w.1 with|mk e a b=>
  rw[e] at k'⊢;exact dY.Dn (τ:=τ.v _ x) (G:=λt=>G (_::t)) (.mk st ⟨b,a,w.2⟩) h (λn h=>k _ _ n h) k'
theorem dY.oh(n:dY c (τ.vs vs ls) ρ σ s)(h:Go (oh ls f z σ') K X)(k:∀v w x y,dY c ((τ.v v x).v w y) ρ σ s->Go (f x y σ') K X->G [v,w])(k':Go (z σ') K X->G vs):G vs:=by
 cases ls with
 |nil=>exact k' h
 |cons x r=>cases n with|mk st w=>cases w.1 with|mk e a b=>
  rw[e] at k'⊢;exact dY.kB (τ:=τ.v _ x) (G:=λt=>G (_::t)) (.mk st ⟨b,a,w.2⟩) h (λU U n h=>k _ _ _ _ n h) k'
theorem dY.K8(n:dY c (τ.vs vs ls) ρ σ s)(h:Go (K8 ls f z σ') K X)(k:∀v w u x y t,dY c (((τ.v v x).v w y).v u t) ρ σ s->Go (f x y t σ') K X->G [v,w,u])(k':Go (z σ') K X->G vs):G vs:=by
 cases ls with
 |nil=>exact k' h
 |cons x r=>cases n with|mk st w=>cases w.1 with|mk e a b=>
  rw[e] at k'⊢;exact dY.oh (τ:=τ.v _ x) (G:=λt=>G (_::t)) (.mk st ⟨b,a,w.2⟩) h (λU U U U n h=>k _ _ _ _ _ _ n h) k'
end
noncomputable def Z.gl{fi:FI}{α:Type}(z:Z fi)(s:aI)(Q:Pq α)(E:Pq Value)(t:List Value->Sem α):List Value->Prop:=λa=>aO z.M z.A (t a) Q E s
theorem fun1(h:EH (λv=>aM F [v]) f):lE F λls=>kB ls f M.no:=λz U U U s Q E U U n g=>n.kB (G:=z.gl s Q E λvs=>aM F vs) g (λU U n g=>h z n g) aC
theorem fun2(h:qN (λv w=>aM F [v,w]) f):lE F λls=>oh ls f M.no:=λz U U U s Q E U U n g=>n.oh (G:=z.gl s Q E λvs=>aM F vs) g (λU U U U n g=>h z n g) aC
theorem Sn{id:String}(h:EH (λv=>aM (.builtin id) [v]) f):jI id λx ls=>Dn ls (f x) M.no:=λz U U U s Q E v U U U n g=>n.Dn (G:=z.gl s Q E λvs=>aM (.builtin id) (v::vs)) g (λn g=>h z n g) aC
theorem EP{id:String}(h:qN (λv w=>aM (.builtin id) [v,w]) f):jI id λx ls=>kB ls (f x) M.no:=λz U U U s Q E v U U U n g=>n.kB (G:=z.gl s Q E λvs=>aM (.builtin id) (v::vs)) g (λU U n g=>h z n g) aC
noncomputable def O7(op:Value->Value->Value->Sem Value)(f:V->V->V->M V):Prop:=∀{fi:FI} (z:Z fi) {τ:cO} {ρ:Env} {σ:Store} {s:aI} {Q E:Pq Value} {a b d:Value} {x y w:V},dY z.c (((τ.v a x).v b y).v d w) ρ σ s->Go (f x y w σ) (KV z.c τ ρ Q) (KE z.c ρ E)->aO z.M z.A (op a b d) Q E s
theorem Nl{id:String}(h:O7 (λv w u=>aM (.builtin id) [v,w,u]) f):jI id λx ls=>oh ls (f x) M.no:=λz U U U s Q E v U U U n g=>n.oh (G:=z.gl s Q E λvs=>aM (.builtin id) (v::vs)) g (λU U U U n g=>h z n g) aC
theorem dY.three{τ:cO}{σ:Store}{a b d:Value}{P:Prop}(n:dY c (((τ.v a x).v b y).v d w) ρ σ s)(k:∀κ,St c κ ρ σ s->RV κ a x->RV κ b y->RV κ d w->τ.p κ->P):P:=by cases n with|mk st h=>exact k _ st h.2.2.1 h.2.1 h.1 h.2.2.2
noncomputable def lenOf{α:Type}(l:List α):M V:=pN l (M.ret (.d (.int l.length)))
noncomputable def lenV(x:V):M V:=x.jz lenOf<|x.c7 lenOf<|x.onStr lenOf<|x.jA (λi=>qu i lenOf) M.no
noncomputable def bLen(ls:List V):M V:=kB ls lenV M.no
section
variable{z:Z fi}
theorem zX{β:Type}{R:Value->β->Prop}{l:List β}{ws:List Value}{t:Addr}(st:St z.c κ ρ σ s)(ht:τ.p κ)(r:dp R ws l)(h:Go (lenOf l σ) (KV z.c τ ρ Q) (KE z.c ρ E))(k:∀(_:((ws.toArray.size:Nat):Int)<2 ^ 63) (_:∀tk K9,Q (.int (ws.toArray.size:Nat) tk) {s with toks:=K9}),aO z.M z.A (aM (.builtin "len") [.ref t]) Q E s):aO z.M z.A (aM (.builtin "len") [.ref t]) Q E s:=
 have e:ws.toArray.size=l.length:=aR.trans r.length
 k (e▸zM h.ite.1) λtk K9=>h.ite.2 _ _ (.mk (st.tok _) ⟨⟨tk,congrArg (λn:Nat=>gi n tk) e⟩,ht⟩)
end
theorem O8:EH (λv=>aM (.builtin "len") [v]) lenV:=λz U U U s Q E U U n h=>n.one λκ st ra ht=>
 ra.wd h (λl ra h=>dB.tup (G:=z.g s Q E λv=>aM (.builtin "len") [v]) st.know ra λt ws it r=>zX st ht r.all h λh1 h2=>A4 it h1 (h2 _ _)) λh=>
 ra.hZ h (λl ra h=>dB.list (G:=z.g s Q E λv=>aM (.builtin "len") [v]) st.know ra λt ws it r=>zX st ht r.all h λh1 h2=>pw it h1 (h2 _ _)) λh=>
 ra.mc (G:=z.g s Q E λv=>aM (.builtin "len") [v]) h (λl t h=>P.len_str (se.mpr (zM h.ite.1)) (h.ite.2 _ _ (.mk (st.tok _) ⟨⟨_,rfl⟩,ht⟩))) λh=>
 ra.tZ h (λi ra h=>have ⟨l,hl,h⟩:=h.sF;st.listV hl ra λt ws m U hg r=>zX st ht r.all h λh1 h2=>pw ⟨_,hg,rfl,_,rfl⟩ h1 (h2 _ _)) aC
theorem So:lE (.builtin "len") bLen:=fun1 O8
noncomputable def gB(i:Int):Tx:=(ah (toString i)).cps.toList
noncomputable def small(i:Int):Bool:=decide (-1000000000000<i/\i<1000000000000)
theorem log2_small(h:small i=true):i.natAbs.log2<1920:=by
 have h:=of_decide_eq_true h;rcases iQ i.natAbs with h0|hp
 ·rw[h0];decide
 ·refine (Nat.log2_lt (fy hp)).mpr (bk (m:=2 ^ 40) ?_ (Nat.pow_le_pow_right (by decide) (by decide)))
  cases i with
  |ofNat n=>exact eQ (aP.mp h.2) (by decide)
  |negSucc n=>exact eQ (aP.mp (Int.lt_of_neg_lt_neg h.1)) (by decide)
noncomputable def strV(x:V):M V:=x.fu (λi=>if small i then M.ret (.d (.str (gB i))) else M.no) M.no
noncomputable def bStr(ls:List V):M V:=kB ls strV M.no
theorem O9:EH (λv=>aM (.type "str") [v]) strV:=λz U U U s Q E U U n h=>n.one λκ st ra ht=>ra.n8 (G:=z.g s Q E λv=>aM (.type "str") [v]) h (λi t h=>P.str_of_int (log2_small h.ite.1) (h.ite.2 _ _ (.mk (st.tok _) ⟨⟨_,rfl⟩,ht⟩))) aC
theorem Sq:lE (.type "str") bStr:=fun1 O9
noncomputable def intV(x:V):M V:=x.fu (λi=>M.ret (.d (.int i)))<|x.onStr (λl=>if l.length<=640 then M.opt ((fS (S l)).map λi=>.d (.int i)) else M.no) M.no
noncomputable def bInt(ls:List V):M V:=kB ls intV M.no
theorem O':EH (λv=>aM (.type "int") [v]) intV:=λz U U U s Q E U U n h=>n.one λκ st ra ht=>ra.n8 (G:=z.g s Q E λv=>aM (.type "int") [v]) h (λi t h=>call_int_int (h _ _ (.mk st ⟨⟨_,rfl⟩,ht⟩))) λh=>
 ra.mc h (λl t h=>have ⟨i,hi,g⟩:=h.ite.2.Di;KIN.call_text hi h.ite.1 (g _ _ (.mk (st.tok _) ⟨⟨_,rfl⟩,ht⟩))) aC
theorem Sr:lE (.type "int") bInt:=fun1 O'
noncomputable def toTup(l:List D):M V:=pN l (M.ret (.d (.tup l)))
noncomputable def toList(l:List D):M V:=pN l (M.ret (.d (.list l)))
noncomputable def tupleV(x:V):M V:=x.c7 toTup<|x.jA (λi=>c7 i toTup) M.no
noncomputable def bTuple(ls:List V):M V:=kB ls tupleV M.no
section
variable{z:Z fi}
theorem BG(st:St z.c κ ρ σ s)(ht:τ.p κ)(hl:s.heap.IsList a vs.toArray)(r:fI κ.B vs l)(h:Go (toTup l σ) (KV z.c τ ρ Q) (KE z.c ρ E)):aO z.M z.A (aM (.type "tuple") [.ref a]) Q E s:=
 call_tuple_list hl (λh' hk=>
  have ⟨le,st',q⟩:=(st.grow (tk:=s.toks) z.ok hk).pK z.ok (R:=λB vs=>fI B vs l) λU hB=>r.mono hB
  h.ite.2 _ _ (.mk st' ⟨q,τ.up le ht⟩)) (by rw[aR,r.length];exact fj h.ite.1)
theorem n9(Dp:t="list"\/t="tuple"){dk:Prop}(st:St z.c κ ρ σ s)(ht:τ.p κ)(q:dB κ.B t dk v λvs=>fI κ.B vs l)(h:Go (toList l σ) (KV z.c τ ρ Q) (KE z.c ρ E)):aO z.M z.A (aM (.type "list") [v]) Q E s:=
 dB.elim (G:=z.g s Q E λv=>aM (.type "list") [v]) q λa o ws n e1 e2 e3 U r=>call_list_seq a Dp (st.know _ _ e1) e2 e3 (λh' c' hk hg=>
  have ⟨le,st'⟩:=st.fresh z.ok hk (ax _) hg
  h.ite.2 _ _ (.mk st' ⟨.mk rfl (gz _ _ _) rfl rfl (λU=>rfl) (r.mono le.B),τ.up le ht⟩)) (by rw[aR,r.length];exact fj h.ite.1)
end
theorem HV:EH (λv=>aM (.type "tuple") [v]) tupleV:=λz U U U s Q E U U n h=>n.one λκ st ra ht=>ra.hZ h (λl ra h=>dB.list (G:=z.g s Q E λv=>aM (.type "tuple") [v]) st.know ra λt ws it r=>BG st ht it r h) λh=>
 ra.tZ h (λi ra h=>have ⟨l,hl,h⟩:=h.sF;st.HG (G:=z.g s Q E λv=>aM (.type "tuple") [v]) hl ra λt ws it r=>BG st ht it r h) aC
theorem K_:lE (.type "tuple") bTuple:=fun1 HV
noncomputable def listV(x:V):M V:=x.jz toList<|x.c7 toList M.no
noncomputable def bList(ls:List V):M V:=kB ls listV M.no
theorem La:EH (λv=>aM (.type "list") [v]) listV:=λz U U U s Q E U U n h=>n.one λκ st ra ht=>ra.wd h (λl ra h=>n9 (.inr rfl) st ht ra h) λh=>ra.hZ h (λl ra h=>n9 (.inl rfl) st ht ra h) aC
theorem O_:lE (.type "list") bList:=fun1 La
noncomputable def iM:Nat->String
 |0=>"int"|1=>"bool"|2=>"tuple"|_=>"str"
noncomputable def Ss(k:Nat)(x:V):M Bool:=x.fu (λU=>M.ret (k==0))<|x.lC (λU=>M.ret (k==0||k==1))<|x.jz (λU=>M.ret (k==2))<|x.onStr (λU=>M.ret (k !=0&&k !=1&&k !=2)) M.no
theorem Pa{fi:FI}(z:Z fi){τ:cO}{ρ:Env}{σ:Store}{s:aI}{Q E:Pq Value}{a:Value}{x:V}{k:Nat}(n:dY z.c (τ.v a x) ρ σ s)(h:Go (Ss k x σ) (KQ z.c τ ρ Q) (KE z.c ρ E)):aO z.M z.A (aM (.builtin "isinstance") [a,.type (iM k)]) Q E s:=n.one λκ st ra ht=>by
 refine ra.n8 (G:=z.g s Q E λa=>aM (.builtin "isinstance") [a,.type (iM k)]) h (λi t h=>?_) λh=>ra.EI h (λb h=>?_) λh=>ra.wd h (λl ra h=>?_) λh=>
  ra.mc h (λl t h=>?_) aC
 ·rcases k with _|_|_|k
  ·exact IsiPair.int_int (h _ (.mk st ht))
  ·exact IsiPair.int_bool (h _ (.mk (st.tok _) ht))
  ·exact IsiPair.int_tuple (h _ (.mk (st.tok _) ht))
  ·exact IsiPair.int_str (h _ (.mk (st.tok _) ht))
 ·rcases k with _|_|_|k
  ·exact IsiPair.bool_int (h _ (.mk st ht))
  ·exact IsiPair.bool_bool (h _ (.mk st ht))
  ·exact IsiPair.bool_tuple (h _ (.mk (st.tok _) ht))
  ·exact IsiPair.bool_str (h _ (.mk (st.tok _) ht))
 ·refine dB.elim ra λa o vs n e1 hc U U U=>?_
  have ho:=st.know _ _ e1;rcases k with _|_|_|k
  ·exact IsiPair.tuple_int ho hc (h _ (.mk (st.tok _) ht))
  ·exact IsiPair.tuple_bool ho hc (h _ (.mk (st.tok _) ht))
  ·exact IsiPair.tuple_tuple ho hc (h _ (.mk st ht))
  ·exact IsiPair.tuple_str ho hc (h _ (.mk (st.tok _) ht))
 ·rcases k with _|_|_|k
  ·exact IsiPair.str_int (h _ (.mk (st.tok _) ht))
  ·exact IsiPair.str_bool (h _ (.mk (st.tok _) ht))
  ·exact IsiPair.str_tuple (h _ (.mk (st.tok _) ht))
  ·exact IsiPair.str_str (h _ (.mk st ht))
noncomputable def Su(k:Nat)(m:ME):MB:=OT (Ss k) m
theorem b_.isi{fi:FI}{e:Expr}{p q pos:Pos}{m:ME}(k:Nat)(h:aD fi e m)(hx:fi.scope.names.lookup (ah "isinstance")=some .globalImplicit)(hy:fi.scope.names.lookup (ah (iM k))=some .globalImplicit)
  (hv:g_ (ah (iM k))=some (.type (iM k))) (hb:ah (iM k)∈kR) (hn:ah (iM k)≠"__name__") (hd:(ah (iM k)==("__debug__":Str))=false) (he:isStar e=false):
  b_ fi (.Call (.Name (ah "isinstance") p) [e,.Name (ah (iM k)) q] [] pos) (Su k m):=λz τ ρ U U U U st g=>
 i_ rfl (z.bare st hx (by decide) (rfl) (by decide) (rfl)
  (i9 (P:=λU=>True) (mK (by show (!isStar e&&true)=true;rw[he];rfl)) (λh U=>⟨.machine,.inr (.inl rfl),kY (f:=.builtin "isinstance") nofun h⟩) (sO (by show (!isStar e&&true)=true;rw[he];rfl)
   (f_ (h z st (g.seq λx U g U U st=>f_ (z.bare st hy hb hv hn hd (jv ⟨trivial,Pa z st g⟩)) (gA rfl))) (gA he)))))
noncomputable def bools(l:List D):Option (List Bool):=l.mapM λd=>d.lC some none
noncomputable def EQ(l:List D):Option (List Int):=l.mapM λd=>d.fu some none
theorem zY{α β:Type}{f:α->Option β}{g:β->α}(hf:∀a b,f a=some b->a=g b){l:List α}:∀{r:List β},l.mapM f=some r->l=r.map g:=by
 induction l with
 |nil=>exact λh=>by rw[List.mapM_nil] at h;cases h;rfl
 |cons a l ih=>
  intro r h;rw[lM] at h;obtain ⟨b,hb,h⟩:=aS.mp h;obtain ⟨t,ht,h⟩:=aS.mp h;obtain rfl:=aF h;rw[hf a b hb,ih ht];rfl
theorem HW{l:List D}{bs:List Bool}(h:bools l=some bs):l=bs.map .bool:=zY (λd b e=>by cases d<;>cases e;rfl) h
theorem HX{l:List D}{bs:List Int}(h:EQ l=some bs):l=bs.map .int:=zY (λd b e=>by cases d<;>cases e;rfl) h
noncomputable def allV(x:V):M V:=x.c7 (λl=>M.opt ((bools l).map λbs=>.d (.bool (bs.all id)))) M.no
noncomputable def bAll(ls:List V):M V:=kB ls allV M.no
theorem rJ{α β:Type}{f:α->β}{l:List α}{i:Nat}{b:β}(h:(l.map f)[i]? =some b):∃a,l[i]? =some a/\b=f a:=by
 rw[de] at h;obtain ⟨a,h1,h2⟩:=a_.mp h;exact ⟨a,h1,h2.symm⟩
theorem oi{α:Type}{l:List α}{i:Nat}{a d:α}(h:l[i]? =some a):l.getD i d=a:=by rw[e_,h];rfl
theorem yq(bs:List Bool):(d3 bs.length).all (λi=>bs.getD i true)=bs.all id:=by
 induction bs with
 |nil=>rfl
 |cons b r ih=>
  simp only [bP,oH,mY,tA,mY,<-ih];rfl
section
variable{fi:FI}{z:Z fi}{κ:View}{ρ:Env}{σ:Store}{s:aI}
theorem St.zZ(st:St z.c κ ρ σ s){h':Heap}{tk:Tok}{o:Obj}(k:∀b x,b∉[s.heap.objs.size]->(s.heap.push o).get? b=some x->h'.get? b=some x):St z.c κ ρ σ {s with heap:=h',toks:=tk}:=
 st.grow z.ok λb x e=>k b x (λq=>bT (cA e) (aA.mp q)) (az _ e)
theorem mn{h:Heap}{t:Addr}{ty:String}{items:Array Value}(ht:∃o,h.get? t=some o/\o.cls= .type ty/\∃n,o.data= .seq items n):t<h.objs.size:=ht.elim λU q=>cA q.1
end
theorem Pb:EH (λv=>aM (.builtin "all") [v]) allV:=λz U U U s Q E U U n h=>n.one λκ st ra ht=>ra.hZ h (λl ra h=>by
 obtain ⟨bs,Yw,hf⟩:=h.Di;obtain rfl:=HW Yw;refine dB.list (G:=z.g s Q E λv=>aM (.builtin "all") [v]) st.know ra λt ws it r=>call_all_walk (mD it ⟨_,_,_,_,_,_,λi=>bs.getD i true,rfl,Ex (A:=z.A.in1) z.a.handled s.heap.objs.size t (bT (mn it)) ws.toArray,⟨⟨_,bC _ rfl,rfl,rfl⟩,it.push _⟩,λi v s' Q' E' hi hQ'=>?_,λh' tk hk=>?_⟩)
 ·obtain ⟨d,hd,hr⟩:=r.all.at ((bV ..).symm.trans hi);obtain ⟨b,hb,rfl⟩:=rJ hd;rw[show v= .bool b from hr]
  exact dN (oi hb▸hQ')
 ·simp only [aR,r.length,af,yq];exact hf _ _ (.mk (st.zZ hk) ⟨rfl,ht⟩)) aC
theorem Sv:lE (.builtin "all") bAll:=fun1 Pb
theorem qy{B:Vw}{ws:List Value}{ns:List Int}(rd:fI B ws (ns.map D.int)){i:Nat}{v:Value}(hi:ws.toArray[i]? =some v):∃t,v= .int (ns.getD i 0) t:=by
 refine cps λP9 k9=>?_
 obtain ⟨d,hd,hr⟩:=rd.all.at ((bV ..).symm.trans hi);obtain ⟨b,hb,rfl⟩:=rJ hd;refine k9 ?_;rw[oi hb];exact hr
theorem ER{h:Heap}{t:Addr}{items:Array Value}{o:Obj}(ht:h.IsTuple t items):∀b∈[h.objs.size,t],b<(h.push o).objs.size:=λb hb=>by
 simp only [fT];rcases aN.mp hb with rfl|hb
 ·exact cy _
 ·cases aA.mp hb;exact Nat.lt_succ_of_lt (mn ht)
noncomputable def minV(x:V):M V:=x.jz (λl=>M.opt ((EQ l).bind λns=>ns.min?.map λi=>.d (.int i))) M.no
noncomputable def bMin(ls:List V):M V:=kB ls minV M.no
theorem Lb{ns:List Int}(h:0<ns.length):ns.min? =some (ns.getD (argBest (λi j=>decide (ns.getD i 0<ns.getD j 0)) (ns.length - 1)) 0):=by
 refine (argBest_lt (λi=>ns.getD i 0) (ns.length - 1)).elim λh1 h2=>?_
 rw[List.min?_eq_some_iff];refine ⟨?_,λb hb=>?_⟩
 ·have q:=bi h1 (sf h u7);rw[oi (bb q)]
  exact jQ _
 ·obtain ⟨j,hj,rfl⟩:=List.getElem_of_mem hb;have q:=h2 j (Nat.le_sub_one_of_lt hj)
  rwa [oi (bb hj)] at q
theorem Pd:EH (λv=>aM (.builtin "min") [v]) minV:=λz U U U s Q E U U n h=>n.one λκ st ra ht=>ra.wd h (λl ra h=>by
 refine cps λP9 k9=>?_
 obtain ⟨U,hb,hf⟩:=h.opt;obtain ⟨ns,rK,hb⟩:=aS.mp hb;obtain ⟨i,hi,rfl⟩:=a_.mp hb;obtain rfl:=HX rK;refine k9 ?_;have Hn:0<ns.length:=by cases ns with|nil=>cases hi|cons=>exact bU _
 refine dB.tup (G:=z.g s Q E λv=>aM (.builtin "min") [v]) st.know ra λt ws it r=>?_
 have hlen:ws.toArray.size=ns.length:=by rw[aR,r.length,af]
 refine call_min_walk (l8 it ⟨_,_,_,_,_,_,λi j=>decide (ns.getD i 0<ns.getD j 0),rfl,u9 (A:=z.A.in1) z.a.handled s.heap.objs.size t (bT (mn it)) ws.toArray,⟨⟨_,bC _ rfl,rfl,rfl⟩,it.push _⟩,ER it,hlen▸Hn,λi j vi vj s' Q' E' h1 h2 hQ=>?_,λv h' tk hv hk=>?_⟩)
 ·obtain ⟨t1,rfl⟩:=qy r h1;obtain ⟨t2,rfl⟩:=qy r h2;exact lt_int hQ
 ·rw[hlen] at hv;obtain ⟨t',rfl⟩:=qy r hv;rw[<-aF (hi.symm.trans (Lb Hn))];exact hf _ _ (.mk (st.zZ hk) ⟨⟨_,rfl⟩,ht⟩)) aC
theorem Sw:lE (.builtin "min") bMin:=fun1 Pd
noncomputable def maxV:V->V->M V:=yo λa b=>M.ret (.d (.int (if b>a then b else a)))
noncomputable def bMax(ls:List V):M V:=oh ls maxV M.no
theorem Pe:qN (λv w=>aM (.builtin "max") [v,w]) maxV:=λz U U U s Q E U U U U n h=>kX z (λv w=>aM (.builtin "max") [v,w]) n h λa t b u n h=>by
 refine n.el λst ht=>?_
 have it:(s.heap.push {cls:=.type "tuple",data:=.seq [gi a t,gi b u].toArray}).IsTuple s.heap.objs.size [gi a t,gi b u].toArray:=⟨_,bC _ rfl,rfl,_,rfl⟩;have r:fI (λU=>none) [gi a t,gi b u] ([a,b].map D.int):=.mk rfl ⟨_,rfl⟩ (.mk rfl ⟨_,rfl⟩ rfl)
 refine call_max_two (l8 it ⟨_,_,_,_,_,_,λi j=>decide ([a,b].getD i 0>[a,b].getD j 0),rfl,u9 (A:=z.A.in1) z.a.handled _ s.heap.objs.size (bT (mn it)) [gi a t,gi b u].toArray,⟨⟨_,bC _ rfl,rfl,rfl⟩,it.push _⟩,ER it,bU _,λi j vi vj s' Q' E' h1 h2 hQ=>?_,λv h' tk hv hk=>?_⟩)
 ·obtain ⟨t1,rfl⟩:=qy r h1;obtain ⟨t2,rfl⟩:=qy r h2;exact gt_int hQ
 ·obtain ⟨t',rfl⟩:=qy r hv;have e:[a,b].getD (argBest (λi j=>decide ([a,b].getD i 0>[a,b].getD j 0)) ([gi a t,gi b u].toArray.size - 1)) 0=if b>a then b else a:=by
   show [a,b].getD (if decide (b>a)=true then 1 else 0) 0=_
   by_cases q:b>a
   ·rw[if_pos (decide_eq_true q),if_pos q];rfl
   ·rw[if_neg λe=>q (of_decide_eq_true e),if_neg q];rfl
  rw[e];exact h _ _ (.mk (St.zZ (st.grow z.ok (tk:=s.toks) λU U e=>az _ e) hk) ⟨⟨_,rfl⟩,ht⟩)
theorem Sx:lE (.builtin "max") bMax:=fun2 Pe
noncomputable def Pf(v:V)(σ:Store):Option Nat:=v.onStr (λU=>some 0)<|v.c7 (λU=>some 1)<|v.jA (λi=>O.c7 σ[i]? (λU=>some 1) none)<|v.mG (λU=>some 2) none
noncomputable def ww(k:Nat)(v:V)(m:M V):M V:=λσ=>if Pf v σ=some k then m σ else .stuck
noncomputable def kT:Nat->String
 |0=>"str"|1=>"list"|_=>"dict"
noncomputable def eBM(k:Nat)(f:V->List V->M V)(o:ME)(m:MAs):ME:=λC ρ=>(o C ρ).bind λv=>ww k v ((m C ρ).bind λls=>f v ls)
structure Ge(s:aI) v t:Prop where
 ty:s.TypeIs v t
 nd:∀a,v= .ref a->∃o,s.heap.get? a=some o/\o.dict=none
theorem Ge.of{s:aI}{a:Addr}{o:Obj}{t:String}(h:s.heap.get? a=some o)(ht:o.cls= .type t)(hd:o.dict=none):Ge s (.ref a) t:=⟨⟨_,h,ht⟩,λb e=>EJ e▸⟨_,h,hd⟩⟩
theorem St.Yx{c:Cx}{κ:View}{ρ:Env}{σ:Store}{s:aI}(st:St c κ ρ σ s){k:Nat}{v:Value}{x:V}(r:RV κ v x)(h:Pf x σ=some k):Ge s v (kT k):=by
 cases x with
 |d d=>cases d with
  |str l=>cases h;obtain ⟨t,rfl⟩:=r;exact ⟨sz _ _ _,nofun⟩
  |list l=>cases h;exact dB.elim (G:=λv=>Ge s v "list") r λa o vs n e1 e2 U e4 U=>.of (st.know _ _ e1) e2 (e4 trivial)
  |_=>cases h
 |obj i=>
  obtain ⟨l,h1,h2⟩:=O.n9 h;obtain rfl:=aF h2;exact st.listV (G:=λv=>Ge s v "list") (by unfold ec;rw[h1];rfl) r λa vs n U hg U=>.of hg rfl rfl
 |dict l=>cases h;cases r with|mk e U hg J=>rw [e];exact .of (st.know _ _ hg) rfl rfl
 |_=>cases h
theorem aD.bm{fi:FI}{o:Expr}{name:Str}{id:String}{k:Nat}{es:List Expr}{apos pos:Pos}{mo:ME}{m:MAs}{f:V->List V->M V}(hf:jI id f)(slot:Slot (kT k) name id)(pa:ya (kT k))(hty:sD (.builtin id)=pure (.type "method_descriptor"))
  (ho:aD fi o mo) (h:c5 fi es m) (pl:Expr->aV->Sem Bool) (he:∀env:aV,eval (.Call (.Attribute o name apos) es [] pos) env=(do
   let ov<-eval o env
   f' apos.atName
   let (f,first)<-g9 [ov] (gj ov name (pl o env))
   ku pos f first (iV pos (d7 es env)) (nZ pos (ja [] env)))) (hp:d0 es=true):
  aD fi (.Call (.Attribute o name apos) es [] pos) (eBM k f mo m):=λz τ ρ U U Q E st g=>
 rC (ho z st (g.seq λx σ g v s n=>by
  obtain ⟨ht,g⟩:=Go.OW g;have t:Ge s v (kT k):=n.one λκ st r U=>st.Yx r ht
  exact tQ t.ty pa slot hty t.nd (BB z nofun h hp n (g.seq λU U g U U st=>hf z st g)))) (he _)
noncomputable def ia(i:Nat)(k:Store->List V->Res V):M V:=λσ=>(ec σ i).elim .stuck (k σ)
noncomputable def sR(σ:Store)(i:Nat)(l:List V):Store:=σ.set i (.list l)
theorem Go.HY{i:Nat}{k:Store->List V->Res V}{σ:Store}{K:V->Store->Prop}{X:Int->Prop}(g:Go (ia i k σ) K X):∃l,ec σ i=some l/\Go (k σ l) K X:=by
 unfold ia at g;cases e:ec σ i with
 |none=>rw [e] at g;exact g.elim
 |some l=>rw [e] at g;exact ⟨l,rfl,g⟩
theorem z7{σ:Store}{i:Nat}{l:List V}(h:ec σ i=some l):σ[i]? =some (.list l):=by
 obtain ⟨l',h1,h2⟩:=O.n9 h;cases h2;exact h1
noncomputable def appV(v x:V):M V:=v.jA (λi=>ia i λσ l=>if l.length<=lim then .ok (.d .none) (sR σ i (l++[x])) else .stuck) M.no
noncomputable def mAppend(v:V)(ls:List V):M V:=kB ls (appV v) M.no
noncomputable def extV(v x:V):M V:=v.jA (λi=>x.jz (λx=>ia i λσ l=>if l.length+x.length<=lim then .ok (.d .none) (sR σ i (l++x.map .d)) else .stuck) M.no) M.no
noncomputable def mExtend(v:V)(ls:List V):M V:=kB ls (extV v) M.no
noncomputable def popV(v:V):M V:=v.jA (λi=>ia i λσ l=>l.getLast?.elim .stuck λx=>if l.length<=lim then .ok x (sR σ i l.dropLast) else .stuck) M.no
noncomputable def mPop(v:V)(ls:List V):M V:=Dn ls (popV v) M.no
theorem St.z8{c:Cx}{κ:View}{ρ:Env}{σ:Store}{s:aI}(st:St c κ ρ σ s)(ok:c.Ok){i:Nat}{l l':List V}{a:Addr}{n':Nat}{vs vm:List Value}{tk:Tok}(hl:ec σ i=some l)(hi:κ.ι[i]? =some [a])(hg:s.heap.get? a=some {cls:=.type "list",data:=.seq vs.toArray n'})
  f (hf:f vs.toArray=vm.toArray) (r:o7 κ vm l'):St c κ ρ (sR σ i l') {s with heap:=s.heap.update a (sj f),toks:=tk}:=by
 have q:=ff (sj f) hg rfl;have q:∃m,(s.heap.update a (sj f)).get? a=some {cls:=.type "list",data:=.seq vm.toArray m}:=⟨_,q.trans (by rw[<-hf];rfl)⟩
 exact q.elim λm q=>st.zV ok hi (z7 hl) rfl (λb x hb e=>(oN _ _ λe'=>hb (aA.mpr e'.symm)).trans e) (λb hb=>by cases aA.mp hb;exact isSome_of q) (.mk rfl q r)
theorem Gf:qN (λv w=>aM (.builtin "list.append") [v,w]) appV:=λz τ ρ σ s Q E v w x y n h=>n.two λκ st ra rb ht=>ra.tZ h (λi ra h=>by
 obtain ⟨l,hl,h1⟩:=h.HY;exact h1.OW.elim λhm h2=>st.listV (G:=z.g s Q E λv=>aM (.builtin "list.append") [v,w]) hl ra λa ws m hi hg r=>o6 PySem.F.slot_list_append ⟨_,hg,rfl⟩ PySem.F.entry_list_append (PySem.F.args_list_append_2 _ _) (list_append a ws.toArray m w (by rw[aR,r.length];exact fj hm)) ⟨hg,h2 _ _ (.mk (st.z8 z.ok hl hi hg _ (List.push_toArray ..) (r.append (.mk rfl rb rfl))) ⟨rfl,ht⟩)⟩) aC
theorem HZ:jI "list.append" mAppend:=EP Gf
theorem Gg(l:Addr)(items:Array Value)(n:Nat)(b:Addr)(wy:Array Value)(n2:Nat)(dd:Option Addr)(sl:Array (Option Value))(hs0:¬(!items.isEmpty&&m4 (items.size+wy.size))=true)(hs1:items.size<=fe)(hs2:items.size+wy.size<=fe+1):
  Meets (cY.«list.extend» ⟨[.ref l,.ref b],[]⟩) (λU R s=>s.heap.get? l=some {cls:=.type "list",dict:=none,data:=.seq items n,slots:=#[]}/\s.heap.get? b=some {cls:=.type "tuple",dict:=dd,data:=.seq wy n2,slots:=sl}/\R (.ok (.ret jR)) {s with heap:=s.heap.update l (sj λx=>x++wy),toks:=s.toks}):=
 .of_wp λprog w A R s h=>by
  obtain ⟨hl,hb,h⟩:=h;have f2:=AutoSeq1.sub_tuple_tuple;have f3:=AutoSeq1.sub_list_list;have f4:=AutoSeq1.sub_tuple_list;have f5:=AutoSeq1.sub_list_tuple
  wp_walk using (wpAny_updateSeq hl rfl (hz:=hs1) (_hz':=(by rw[Array.size_append];exact hs2:(items++wy).size<=fe+1))),m6 hl,m6 hb
  exact ⟨_,rfl,h⟩
theorem Gh:qN (λv w=>aM (.builtin "list.extend") [v,w]) extV:=λz τ ρ σ s Q E v w x y n h=>n.two λκ st ra rb ht=>ra.tZ h (λi ra h=>rb.wd h (λt rb h=>by
 obtain ⟨l,hl,h1⟩:=h.HY;obtain ⟨hm,h2⟩:=h1.OW;refine st.listV (G:=z.g s Q E λv=>aM (.builtin "list.extend") [v,w]) hl ra λa ws m hi hg r=>dB.tup (G:=z.g s Q E λw=>aM (.builtin "list.extend") [.ref a,w]) st.know rb λb us it r2=>qv it λk dd sl hb=>?_
 have hlen:ws.length+us.length<=lim:=by rw[r.length,r2.length];exact hm
 exact o6 PySem.F.slot_list_extend ⟨_,hg,rfl⟩ PySem.F.entry_list_extend (PySem.F.args_list_extend_2 _ _) (Gg a ws.toArray m b us.toArray k dd sl (by rw[aR,aR,(show m4 (ws.length+us.length)=false from decide_eq_false (gJ.mpr (ac hlen (by decide)))),jk];exact nofun) (ac (ak _ _) (fj hlen)) (bp (fj hlen)))
  ⟨hg,hb,h2 _ _ (.mk (st.z8 z.ok hl hi hg _ (hJ ..) (r.append r2.toV)) ⟨rfl,ht⟩)⟩) aC) aC
theorem H0:jI "list.extend" mExtend:=EP Gh
theorem Gi(l:List Value)(x:Value)(h:l.getLast? =some x):l.toArray.eraseIdxIfInBounds (l.toArray.size - 1)=l.dropLast.toArray:=by
 unfold Array.eraseIdxIfInBounds;rw[dif_pos (show l.toArray.size - 1<l.toArray.size from sf (by cases l with|nil=>cases h|cons=>exact bU _:0<l.length) u7),List.eraseIdx_toArray]
 exact congrArg A3 List.eraseIdx_length_sub_one
theorem dp.init{α β:Type}{R:α->β->Prop}{x:List α}{y:List β}(r:dp R x y):dp R x.dropLast y.dropLast:=by
 rw[jD,jD,r.length];exact r.take _
theorem Pg:EH (λv=>aM (.builtin "list.pop") [v]) popV:=λz τ ρ σ s Q E v x n h=>n.one λκ st ra ht=>ra.tZ h (λi ra h=>by
 obtain ⟨l,hl,h1⟩:=h.HY;cases hx:l.getLast? with
 |none=>rw [hx] at h1;exact h1.elim
 |some x=>
  rw[hx] at h1;obtain ⟨hm,h2⟩:=Go.OW (m:=.ok x (sR σ i l.dropLast)) h1;refine st.listV (G:=z.g s Q E λv=>aM (.builtin "list.pop") [v]) hl ra λa ws m hi hg r=>?_
  obtain ⟨y,hy,ry⟩:=r.all.get _ x (mh ▸hx);rw[<-r.length] at hy;exact o6 PySem.F.slot_list_pop ⟨_,hg,rfl⟩ PySem.F.entry_list_pop (PySem.F.args_list_pop_1 _) (MeetsSeq.list_pop_last a ws.toArray m y ((bV ..).trans hy) (by rw[aR,r.length];exact fj hm))
   ⟨hg,h2 _ _ (.mk (st.z8 z.ok hl hi hg _ (Gi ws y (mh ▸hy)) (.of r.all.init)) ⟨ry,ht⟩)⟩) aC
theorem Sy:jI "list.pop" mPop:=Sn Pg
noncomputable def idxV(v x:V):M V:=v.c7 (λl=>x.yj (λx=>if l.length<=lim/\pL x<=30/\kW l x=true then M.ret (.d (.int (l.findIdx λy=>t7 y x))) else M.no) M.no) M.no
noncomputable def mIndex(v:V)(ls:List V):M V:=kB ls (idxV v) M.no
theorem H2:qN (λv w=>aM (.builtin "list.index") [v,w]) idxV:=λz τ ρ σ s Q E v w x y n h=>n.two λκ st ra rb ht=>ra.hZ h (λl ra h=>rb.d? h (λx rb h=>by
 obtain ⟨⟨h1,h2,h3⟩,h⟩:=h.ite;refine dB.list (G:=z.g s Q E λv=>aM (.builtin "list.index") [v,w]) st.know ra λa ws it r=>qv it λm dd sl ho=>?_
 have hlt:l.findIdx (λy=>t7 y x)<l.length:=List.findIdx_lt_length.mpr (jT.mp h3)
 have at_:∀(k:Nat) (hk:k<ws.toArray.size) (hk':k<l.length),F_ κ.B x ws.toArray[k]=t7 l[k] x:=λk hk hk'=>by
  obtain ⟨Xv,e1,e2⟩:=r.all.get k _ (bb hk');cases (bb (l:=ws) hk).symm.trans e1;exact zQ e2
 exact o6 PySem.F.slot_list_index ⟨_,ho,rfl⟩ PySem.F.entry_list_index (PySem.F.args_list_index_2 _ _) (list_indexAt a ws.toArray m dd sl w (F_ κ.B x) _ (by rw[aR,r.length];exact hlt:l.findIdx (λy=>t7 y x)<ws.toArray.size) (bL (aP.mpr (bk hlt h1)) (by decide)) ((at_ _ (by rw[aR,r.length];exact hlt:l.findIdx (λy=>t7 y x)<ws.toArray.size) hlt).trans (p_ (p:=λy=>t7 y x) (w:=hlt)))
   λk hk hkj=>(at_ k hk (eQ hkj hlt)).trans (uC _▸List.not_of_lt_findIdx (p:=λy=>t7 y x) hkj)) ⟨ho,st.hits rb h2 r,h _ _ (.mk (st.tok _) ⟨⟨_,rfl⟩,ht⟩)⟩) aC) aC
theorem Lc:jI "list.index" mIndex:=EP H2
noncomputable def txts(l:List D):Option (List Tx):=l.mapM λd=>d.onStr some none
noncomputable def pO(sep:Tx):List Tx->Tx
 |[]=>[]
 |x::r=>r.casesOn (motive:=λU=>Tx) x λU U=>x++sep++pO sep r
noncomputable def rL(l:List Tx):Nat:=(l.map C1).sum
noncomputable def mM(sep:Tx)(l:List D):M V:=sF (txts l) λts=>if rL ts+ts.length*sep.length<=lim then M.ret (.d (.str (pO sep ts))) else M.no
noncomputable def joinV(v x:V):M V:=v.onStr (λsep=>x.c7 (mM sep)<|x.jA (λi=>c7 i (mM sep)) M.no) M.no
noncomputable def mJoin(v:V)(ls:List V):M V:=kB ls (joinV v) M.no
theorem Ld{l:List D}{ts:List Tx}(h:txts l=some ts):l=ts.map .str:=zY (λd b e=>by cases d<;>cases e;rfl) h
theorem H3{B:Vw}{ts:List Tx}:∀{ws:List Value},fI B ws (ts.map .str)->StrsAre ws (ts.map S):=by
 induction ts with
 |nil=>exact λh=>by rw[show _=[] from h];exact .nil
 |cons t ts ih=>exact λh=>kJ.elim (G:=λws=>StrsAre ws _) h λa r p q=>by obtain ⟨U,rfl⟩:=p;exact .cons _ _ (ih q)
theorem Pj(sep:Tx)(ts:List Tx):lN (S sep) (ts.map S)=S (pO sep ts):=by
 induction ts with
 |nil=>rfl
 |cons x r ih=>
  cases r with
  |nil=>rfl
  |cons y r=>
   show S x++S sep++lN (S sep) ((y::r).map S)=S (x++sep++pO sep (y::r));rw[ih,sM,sM]
theorem H4(ts:List Tx):((ts.map S).map (·.length)).sum=rL ts:=congrArg List.sum bR
theorem ES{fi:FI}{z:Z fi}{τ:cO}{κ:View}{ρ:Env}{σ:Store}{s:aI}{Q E:Pq Value}{sep:Tx}{t:Tok}{a:Addr}{ws:List Value}{l:List D}(st:St z.c κ ρ σ s)(ht:τ.p κ)(it:s.heap.IsList a ws.toArray)(r:fI κ.B ws l)(h:Go (mM sep l σ) (KV z.c τ ρ Q) (KE z.c ρ E)):
  aO z.M z.A (aM (.builtin "str.join") [.str (S sep) t,.ref a]) Q E s:=by
 obtain ⟨ts,hts,g⟩:=h.sF;cases Ld hts;refine join_list it (ys:=ts.map S) (H3 r) (by rw[H4,af,sG];exact ac g.ite.1 (by decide)) λt' k=>?_
 rw[show Txt.join (S sep) (ts.map S)=S (pO sep ts) from (StrLaws.glued_eq_join ..).trans (Pj ..)]
 exact g.ite.2 _ _ (.mk (st.tok _) ⟨⟨_,rfl⟩,ht⟩)
theorem Lf:qN (λv w=>aM (.builtin "str.join") [v,w]) joinV:=λz τ ρ σ s Q E v w x y n h=>n.two λκ st ra rb ht=>ra.mc (G:=z.g s Q E λv=>aM (.builtin "str.join") [v,w]) h (λsep t h=>
 rb.hZ h (λl rb h=>dB.list (G:=z.g s Q E λw=>aM (.builtin "str.join") [.str (S sep) t,w]) st.know rb λa ws it r=>ES st ht it r h) λh=>
 rb.tZ h (λi rb h=>have ⟨l,hl,h⟩:=h.sF;st.HG (G:=z.g s Q E λw=>aM (.builtin "str.join") [.str (S sep) t,w]) hl rb λa ws it r=>ES st ht it r h) aC) aC
theorem Pk:jI "str.join" mJoin:=EP Lf
noncomputable def t_(ch:Nat)(l:Tx)(i:Nat):Int:=if i+(l.drop i).findIdx (·==ch)<l.length then ((i+(l.drop i).findIdx (·==ch):Nat):Int) else -1
noncomputable def findV(v x y:V):M V:=v.onStr (λl=>x.onStr (λc=>one c λch=>y.fu (λi=>if 0<=i/\i<=l.length then M.ret (.d (.int (t_ ch l i.toNat))) else M.no) M.no) M.no) M.no
noncomputable def mFind(v:V)(ls:List V):M V:=oh ls (findV v) M.no
theorem ub(l:Tx)(j:Nat){v:Nat}(h:j<=v):(S l).cps.getD v 0=((l.drop j).getD (v - j) 0):=by
 have e:(S l).cps.getD v 0=l.getD v 0:=by
  show l.toArray.getD v 0=_;rw[Array.getD_eq_getD_getElem?,bV,e_]
 rw[e,e_,e_,sk,fL h]
theorem Pl(l:Tx)(ch:Nat)(i:Int)(h0:0<=i)(h1:i<=l.length):Txt.find3 (S l) (S [ch]) i=t_ ch l i.toNat:=by
 have hi:fromIndex (S l).length i=i.toNat:=by
  unfold fromIndex;rw[if_neg (eK.mpr h0)];exact congrArg Int.toNat (jP h0)
 rcases StrLaws.find3_spec (S l) ch i with ⟨e,hn⟩|⟨k,e,k1,k2,k3,k4⟩
 ·rw[HM,e];unfold t_;rw[if_neg λhlt=>?_]
  have Sz:(l.drop i.toNat).findIdx (·==ch)<(l.drop i.toNat).length:=by rw[g0];exact oP.mpr hlt
  rw[hi] at hn;refine hn _ (ak _ _) hlt ?_;rw[ub l _ (ak _ _),eC,oi (bb Sz)];exact beq_iff_eq.mp (p_ (p:=(·==ch)) (w:=Sz))
 ·rw[HM,e];rw[hi] at k1 k4;rw[ub l _ k1] at k3;have Yy:k - i.toNat<(l.drop i.toNat).length:=by rw[g0];exact Nat.sub_lt_sub_right k1 k2
  have hf:(l.drop i.toNat).findIdx (·==ch)=k - i.toNat:=by
   refine (List.findIdx_eq Yy).mpr ⟨beq_iff_eq.mpr ((oi (bb Yy)).symm.trans k3),λj hj=>?_⟩
   have q:=k4 (i.toNat+j) (ak _ _) (oP.mp hj);rw[ub l _ (ak _ _),eC,oi (bb (eQ hj Yy))] at q
   exact beq_eq_false_iff_ne.mpr q
  unfold t_;rw[hf,fL k1];exact (if_pos k2).symm
theorem Lg:O7 (λv w u=>aM (.builtin "str.find") [v,w,u]) findV:=λz τ ρ σ s Q E a b d x y w n h=>n.three λκ st ra rb rd ht=>ra.mc (G:=z.g s Q E λa=>aM (.builtin "str.find") [a,b,d]) h (λl t h=>rb.mc (G:=z.g s Q E λb=>aM (.builtin "str.find") [.str (S l) t,b,d]) h (λc u h=>by
 obtain ⟨ch,rfl,h⟩:=h.one;refine rd.n8 (G:=z.g s Q E λd=>aM (.builtin "str.find") [.str (S l) t,.str (S [ch]) u,d]) h (λi k h=>SC.find3 ?_) aC
 rw[Pl _ _ _ h.ite.1.1 h.ite.1.2];exact h.ite.2 _ _ (.mk (st.tok _) ⟨⟨_,rfl⟩,ht⟩)) aC) aC
theorem m_find:jI "str.find" mFind:=Nl Lg
noncomputable def getV(v x y:V):M V:=v.mG (λl=>x.onStr (λk=>y.yj (λd=>M.ret (.d ((kA l k).getD d))) M.no) M.no) M.no
noncomputable def mGet(v:V)(ls:List V):M V:=oh ls (getV v) M.no
theorem Pm:O7 (λv w u=>aM (.builtin "dict.get") [v,w,u]) getV:=λz τ ρ σ s Q E a b d x y w n h=>n.three λκ st ra rb rd ht=>ra.Bs h (λl ra h=>rb.mc (G:=z.g s Q E λb=>aM (.builtin "dict.get") [a,b,d]) h (λk u h=>rd.d? h (λe rd h=>by
 cases ra with|mk ea q hg r=>
 rw[ea];rw[st.P.P] at r;have f:=En.find (k:=k) r;refine call_meetsIn PySem.F.slot_dict_get (En.mapOf (prog:=z.c.W.prog) r (st.know _ _ hg)).typeIs PySem.F.entry_dict_get (PySem.F.args_dict_get_3 _ _ _) (meets_dict_get_default _ _ (gO _ _ _ _) q d) ⟨_,(En.mapOf (prog:=z.c.W.prog) r (st.know _ _ hg)),h _ _ (.mk (st.tok _) ⟨?_,ht⟩)⟩
 cases hk:kA l k with
 |none=>rw [hk] at f;rw[show o3 _ _ _=none from f];exact rd
 |some d=>rw [hk] at f;obtain ⟨v,e,hv⟩:=f;rw[e];exact hv) aC) aC) aC
theorem SA:jI "dict.get" mGet:=Nl Pm
mutual
noncomputable def py:D->dT
 | .none=>.none
 | .bool b=>.bool b
 | .int i=>.int i
 | .str s=>.str (S s)
 | .tup l=>.tuple (ET l)
 | .list l=>.list (ET l)
noncomputable def ET:List D->List dT
 |[]=>[]
 |x::r=>py x::ET r
end
theorem H5{B:Vw}{h:Heap}(hB:Sub B h)(d:D):∀{v:Value},RD B v d->∃as,Reads h v (py d) as:=
 @D.rec (λd=>∀{v},RD B v d->∃as,Reads h v (py d) as) (λl=>∀{vs},fI B vs l->∃as,ReadsAll h vs (ET l) as) (λe=>(show _=_ from e)▸⟨_,.none⟩) (λb {v} e=>(show v=_ from e)▸⟨_,.bool b⟩) (λi _ ⟨t,e⟩=>e▸⟨_,.int i t⟩) (λl _ ⟨t,e⟩=>e▸⟨_,.str _ t⟩)
  (λl ih {v} q=>dB.elim (G:=λv=>∃as,Reads h v (py (.tup l)) as) q λa o vs n e1 e2 e3 U r=>(ih r).elim λas x=>⟨as,.tuple (hB _ _ e1) e2 e3 x⟩)
  (λl ih {v} q=>dB.elim (G:=λv=>∃as,Reads h v (py (.list l)) as) q λa o vs n e1 e2 e3 U r=>(ih r).elim λas x=>⟨_,.list (hB _ _ e1) e2 e3 x⟩)
  (λe=>(show _=[] from e)▸⟨_,.nil⟩) (λd l i1 i2 {vs} q=>kJ.elim (G:=λvs=>∃as,ReadsAll h vs (ET (d::l)) as) q λa t p q=>(i1 p).elim λas x=>(i2 q).elim λbs y=>⟨_,.cons x y⟩) d
theorem Gj(d:D):(py d).hasDict=false:=
 @D.rec (λd=>(py d).hasDict=false) (λl=>dT.hasDictAll (ET l)=false) rfl (λU=>rfl) (λU=>rfl) (λU=>rfl) (λU h=>h) (λU h=>h) rfl (λd l h1 h2=>by show (_||_)=false;rw[h1,h2];rfl) d
theorem H6(d:D):(py d).depth=pL d:=
 @D.rec (λd=>(py d).depth=pL d) (λl=>dT.depthAll (ET l)=kU l) rfl (λU=>rfl) (λU=>rfl) (λU=>rfl) (λU h=>congrArg (·+1) h) (λU h=>congrArg (·+1) h) rfl (λd l h1 h2=>congr (congrArg max h1) h2) d
noncomputable def Nm(d:D):Tx:=(py d).shown.cps.toList
noncomputable def reprV(x:V):M V:=x.c7 (λl=>if (sm (ET l)=true/\(Nm (.list l)).length<=lim)/\kU l<=30 then M.ret (.d (.str (Nm (.list l)))) else M.no) M.no
noncomputable def bRepr(ls:List V):M V:=kB ls reprV M.no
theorem Lh:EH (λv=>aM (.builtin "repr") [v]) reprV:=λz U U U s Q E U U n h=>n.one λκ st ra ht=>ra.hZ h (λl ra h=>by
 obtain ⟨⟨⟨h1,h2⟩,h3⟩,h⟩:=h.ite;obtain ⟨as,rd⟩:=H5 st.know _ ra;obtain ⟨a,rfl⟩:=wj ra;exact repr_of_reads' rd h1 (λh=>by rw[Gj] at h;cases h) z.a.guards (by rw[H6];exact bk (qQ (bi (aw (aw h3)) (by decide:32<40)) _) z.room) (λU U e=>e) (λh' u tk hk=>h _ _ (.mk (st.grow z.ok hk) ⟨⟨_,rfl⟩,ht⟩)) (fj h2)) aC
theorem Po:lE (.builtin "repr") bRepr:=fun1 Lh
noncomputable def M.new(o:O):M V:=λσ=>.ok (.obj σ.length) (σ++[o])
noncomputable def SD(m:MAs):ME:=λC ρ=>(m C ρ).bind λl=>pN l (M.new (.list l))
theorem aD.Yz{fi:FI}{es:List Expr}{pos:Pos}{m:MAs}(h:c5 fi es m):aD fi (.List es pos) (SD m):=λz τ ρ U U U U st g=>
 List_ (h z pos st (g.seq λl σ g vs s st=>by
  cases st with|mk st r=>
  have hn:(s.heap.push {cls:=.type "list",data:=.seq vs.toArray}).get? s.heap.objs.size=some {cls:=.type "list",data:=.seq vs.toArray}:=bC _ rfl;obtain ⟨e,st'⟩:=st.EO z.ok (as:=[s.heap.objs.size]) (o:=.list l) (tk:=s.toks) (λb o e=>az _ e) (bQ.mpr ⟨nofun,d4⟩) (λa ha=>by cases aA.mp ha;exact ⟨ax _,isSome_of hn⟩) (.mk rfl hn (o7.mono (View.kZ _ _) r.1))
  exact df (g.ite.2 _ _ (.mk st' ⟨.mk rfl e,τ.up (View.kZ _ _) r.2⟩)) (show vs.toArray.size<=fe by rw[aR,r.1.length];exact fj g.ite.1)))
noncomputable def RS.bind(r:RS)(k:Env->Store->RS):RS:=match r with
 | .stuck=>.stuck
 | .ok f ρ σ=>Fl.casesOn (motive:=λU=>RS) f (k ρ σ) (.ok .brk ρ σ) (.ok .cont ρ σ) λv=>.ok (.ret v) ρ σ
 | .exc x ρ=>.exc x ρ
noncomputable def RS.nk{α:Type}(r:Res α)(ρ:Env)(k:α->Store->RS):RS:=match r with
 | .stuck=>.stuck
 | .ok a σ=>k a σ
 | .exc x=>.exc x ρ
noncomputable abbrev KSt:=Fl->Env->Store->Prop
noncomputable def fR(r:RS)(K:KSt)(X:Int->Env->Prop):Prop:=match r with
 | .stuck=>False
 | .ok f ρ σ=>K f ρ σ
 | .exc k ρ=>X k ρ
theorem fR.nk{α:Type}{r:Res α}{ρ:Env}{k:α->Store->RS}{K:KSt}{X:Int->Env->Prop}{K':α->Store->Prop}(h:fR (RS.nk r ρ k) K X)(g:∀a σ,fR (k a σ) K X->K' a σ):Go r K' λi=>X i ρ:=by
 cases r with
 |stuck=>exact h
 |ok a σ=>exact g a σ h
 |exc k=>exact h
theorem fR.mono{K K':KSt}(h:fR r K X)(g:∀f ρ σ,K f ρ σ->K' f ρ σ)(g':∀k ρ,X k ρ->X' k ρ):fR r K' X':=by
 cases r with
 |stuck=>exact h
 |ok f ρ σ=>exact g f ρ σ h
 |exc k ρ=>exact g' k ρ h
noncomputable def Bd(c:Cx)(τ:cO)(Q:Pq Flow):KSt:=λf ρ σ=>Fl.casesOn (motive:=λU=>Prop) f (∀s,dY c τ ρ σ s->Q .next s) (∀s,dY c τ ρ σ s->Q .brk s) (∀s,dY c τ ρ σ s->Q .cont s) λx=>∀v s,dY c (τ.v v x) ρ σ s->Q (.ret v) s
noncomputable def H7(c:Cx)(E:Pq Value):Int->Env->Prop:=λk ρ=>KE c ρ E k
theorem fR.seq(h:fR (r.bind k) (Bd c τ Q) X)(g:∀ρ σ,fR (k ρ σ) (Bd c τ Q) X->∀s,dY c τ ρ σ s->Q' .next s)(g1:∀s,Q .brk s->Q' .brk s)(g2:∀s,Q .cont s->Q' .cont s)(g3:∀v s,Q (.ret v) s->Q' (.ret v) s):fR r (Bd c τ Q') X:=by
 cases r with
 |stuck=>exact h
 |ok f ρ σ=>cases f with
  |next=>exact g ρ σ h
  |brk=>exact λs n=>g1 s (h s n)
  |cont=>exact λs n=>g2 s (h s n)
  |ret v=>exact λv s n=>g3 v s (h v s n)
 |exc k ρ=>exact h
noncomputable def cb(fi:FI)(t:Stmt)(m:MS):Prop:=∀(z:Z fi) {τ:cO} {ρ:Env} {σ:Store} {s:aI} {Q:Pq Flow} {E:Pq Value},dY z.c τ ρ σ s->fR (m z.C ρ σ) (Bd z.c τ Q) (H7 z.c E)->aO z.M z.A (exec t z.c.env) Q E s
noncomputable def eh(fi:FI)(t:List Stmt)(m:MS):Prop:=∀(z:Z fi) {τ:cO} {ρ:Env} {σ:Store} {s:aI} {Q:Pq Flow} {E:Pq Value},dY z.c τ ρ σ s->fR (m z.C ρ σ) (Bd z.c τ Q) (H7 z.c E)->aO z.M z.A (C7 t z.c.env) Q E s
noncomputable def sNil:MS:=λU ρ σ=>.ok .next ρ σ
noncomputable def Pp(a b:MS):MS:=λC ρ σ=>(a C ρ σ).bind (b C)
noncomputable abbrev MT:=V->MS
noncomputable def Nn(c:Cx)(τ:cO)(Q:Pq Unit):KSt:=λf ρ σ=>Fl.casesOn (motive:=λU=>Prop) f (∀s,dY c τ ρ σ s->Q () s) False False λU=>False
noncomputable def Nx(r:RS):Prop:=match r with
 | .ok f _ _=>f= .next
 |_=>True
structure eZ(fi:FI)(t:Expr)(m:MT):Prop where
 nx:∀x C ρ σ,Nx (m x C ρ σ)
 go:∀(z:Z fi) {τ:cO} {ρ:Env} {σ:Store} {s:aI} {Q:Pq Unit} {E:Pq Value} {v:Value} {x:V},dY z.c (τ.v v x) ρ σ s->fR (m x z.C ρ σ) (Nn z.c τ Q) (H7 z.c E)->aO z.M z.A (EA t z.c.env v) Q E s
noncomputable def BH(i:Nat):MT:=λx U ρ σ=>.ok .next (ρ.set i (some x)) σ
noncomputable def BI(e:ME)(t:MT):MS:=λC ρ σ=>RS.nk (e C ρ σ) ρ λv σ'=>t v C ρ σ'
noncomputable def SE(m:ME):MS:=λC ρ σ=>RS.nk (m C ρ σ) ρ λU σ'=>.ok .next ρ σ'
noncomputable def YA(m:ME):MS:=λC ρ σ=>RS.nk (m C ρ σ) ρ λv σ'=>.ok (.ret v) ρ σ'
noncomputable def sIf(t:MB)(a b:MS):MS:=λC ρ σ=>RS.nk (t C ρ σ) ρ λq σ'=>cond q (a C ρ σ') (b C ρ σ')
theorem dY.drop(n:dY c (τ.v v x) ρ σ s):dY c τ ρ σ s:=n.le λU h=>h.2
section
theorem eh.nil:eh fi [] sNil:=λU U U U U U U st h=>iK (h _ st)
theorem eh.cons(h:cb fi t m)(hs:eh fi ts ms):eh fi (t::ts) (Pp m ms):=λz U U U U U U st g=>uL (h z st (fR.seq g (λU U g U st=>hs z st g) (λU h=>h) (λU h=>h) λU U h=>h))
theorem eZ.var(h:sP fi i x):eZ fi (.Name x pos) (BH i):=⟨λU U U U=>rfl,λz U U U U U U U U st g=>assign_Name (z.store h st λU st=>g _ st.drop)⟩
theorem z9{t:MT}(hm:aD fi e m)(z:Z fi){τ:cO}{σ:Store}{Q:Pq Flow}{Q':Pq Value}(st:dY z.c τ ρ σ s)(g:fR (BI m t z.C ρ σ) (Bd z.c τ Q) (H7 z.c E))(k:∀x σ,fR (t x z.C ρ σ) (Bd z.c τ Q) (H7 z.c E)->∀v s,dY z.c (τ.v v x) ρ σ s->Q' v s):aO z.M z.A (eval e z.c.env) Q' E s:=hm z st (g.nk k)
theorem cb.Li(hm:aD fi value m)(h:sP fi i x)(hs:∀env:aV,env.scope=fi.scope->fU value (some (.Name x pos')) pos.line env=pure false):cb fi (.Assign [.Name x pos'] value pos) (BI m (BH i)):=λz U U U U U U st g=>
 wpAny_Assign_Name (z9 hm z st g λx U g v s st=>z.store h st λU st=>g _ st.drop) (hs _ (by rw[z.ok.scope,z.fi]))
theorem cb.expr{pos:Pos}(hm:aD fi e m)(hi:∀env:aV,env.scope.kind= .function->vf env=false)(hs:∀env:aV,env.scope=fi.scope->fU e none pos.line env=pure false):cb fi (.Expr e pos) (SE m):=λz U U U U U U st g=>
 wpAny_Expr_any (hm z st (fR.nk g λU U g U U st=>g _ st.drop)) (hi _ z.kind) (hs _ (by rw[z.ok.scope,z.fi]))
theorem cb.ret{pos:Pos}(hm:aD fi e m):cb fi (.Return (some e) pos) (YA m):=λz U U U U U U st g=>tR (hm z st (fR.nk g λU U g U U st=>g _ _ st))
theorem cb.ite{t:Expr}{a b:List Stmt}{pos:Pos}{mt:MB}{ma mb:MS}(ht:cC fi t mt)(ha:eh fi a ma)(hb:eh fi b mb):cb fi (.If t a b pos) (sIf mt ma mb):=λz U U U U U U st g=>wpAny_If (ht z st (fR.nk g λq U g U st=>by
 cases q with
 |true=>exact ha z st g
 |false=>exact hb z st g))
end
noncomputable def Lj(σ:Store)(i cl:Nat)(l:List (Nat×V)):Store:=σ.set i (.inst cl l)
noncomputable def oj(l:List (Nat×V))(k:Nat)(x:V):List (Nat×V):=match l with
 |[]=>[(k,x)]
 |p::r=>if p.1=k then (k,x)::r else p::oj r k x
noncomputable def putAt(k i:Nat)(x:V):Env->Store->RS:=λρ σ=>O.eH σ[i]? (λcl l=>if (sH cl k&&b7 l.length 100)=true then .ok .next ρ (Lj σ i cl (oj l k x)) else .stuck) .stuck
noncomputable def toAttr(k:Nat)(o x:V):Env->Store->RS:=o.jA (λi=>putAt k i x) λU U=>.stuck
noncomputable def Np(k:Nat)(o:ME):MT:=λx C ρ σ=>RS.nk (o C ρ σ) ρ λov σ'=>toAttr k ov x ρ σ'
open Classical in
noncomputable def BJ(h base:Heap)(L d b:Addr):Option (Addr×Obj):=if b≠L/\b≠d/\base.get? b=none then (h.get? b).map λo=>(b,o) else none
noncomputable def ledger(h base:Heap)(L d:Addr):List (Addr×Obj):=(d3 h.objs.size).filterMap (BJ h base L d)
theorem rM:(b,o)∈ledger h base L d↔h.get? b=some o/\b≠L/\b≠d/\base.get? b=none:=by
 refine sq.trans ⟨?_,λq=>⟨b,jq.mpr (cA q.1),(if_pos q.2).trans (by rw[q.1];rfl)⟩⟩
 rintro ⟨a, -,e⟩
 unfold BJ at e
 by_cases q:a≠L/\a≠d/\base.get? a=none
 ·rw[if_pos q] at e;obtain ⟨o',ho,e⟩:=a_.mp e;obtain ⟨rfl,rfl⟩:=cS e;exact ⟨ho,q⟩
 ·rw[if_neg q] at e;cases e
theorem Bc.put(hk:k<=12)(rv:RV κ v x):∀{es:List bh},Bc κ es l->Bc κ (putL (du k) hs (.str (du k) t) v es) (oj l k x):=by
 induction l with
 |nil=>exact λh=>by rw[show _=[] from h];exact .mk rfl (.mk hk rfl rv) rfl
 |cons p l ih=>
  intro es h;refine kJ.elim (G:=λes=>Bc κ (putL (du k) hs (.str (du k) t) v es) (oj (p::l) k x)) h λe r q w=>?_
  show Bc κ (if e.key.isStr (du k) then ⟨e.hash,e.key,v⟩::r else e::putL (du k) hs (.str (du k) t) v r) (if p.1=k then (k,x)::l else p::oj l k x)
  refine q.el λq1 q2 q3=>?_
  rw[q2,ly]
  by_cases h:p.1=k
  ·rw[if_pos (beq_iff_eq.mpr (congrArg du h)),if_pos h,h];exact .mk rfl (.mk hk rfl rv) w
  ·rw[if_neg λq=>h (yT _ q1 _ hk (beq_iff_eq.mp q)),if_neg h]
   exact .mk rfl (.mk q1 q2 q3) (ih w)
theorem nq:(l.map (·.1)).Nodup->((oj l k x).map (·.1)).Nodup/\(oj l k x).length<=l.length+1/\∀p∈oj l k x,p.1=k\/∃q∈l,q.1=p.1:=by
 induction l with
 |nil=>exact λU=>⟨bQ.mpr ⟨nofun,d4⟩,ax _,λp hp=>by cases aA.mp hp;exact .inl rfl⟩
 |cons q l ih=>
  refine λnd=>(bQ.mp nd).elim λn1 n2=>?_
  obtain ⟨i1,i2,i3⟩:=ih n2;unfold oj
  by_cases h:q.1=k
  ·rw[if_pos h];refine ⟨by rw[cD,<-h];exact nd,bX _,λp hp=>(aN.mp hp).elim (λe=>.inl (e▸rfl)) λhp=>.inr ⟨p,.tail _ hp,rfl⟩⟩
  ·rw[if_neg h];refine ⟨bQ.mpr ⟨λhm=>?_,i1⟩,aw i2,λp hp=>?_⟩
   ·obtain ⟨p,hp,e⟩:=br.mp hm;rcases i3 p hp with e'|⟨q',hq,e'⟩
    ·exact h (e.symm.trans e')
    ·exact n1 (br.mpr ⟨q',hq,e'.trans e⟩)
   ·rcases aN.mp hp with rfl|hp
    ·exact .inr ⟨_,.head _,rfl⟩
    ·exact (i3 p hp).imp id λ⟨q',hq,e⟩=>⟨q',.tail _ hq,e⟩
theorem SG{κ:View}{σ:Store}(st:St c κ ρ σ s){i:Nat}(h:κ.ι[i]? =some [a,b]):b≠a:=λe=>
 (bQ.mp ((bz.mp st.nodup).2.1.sublist (List.sublist_flatten_of_mem (bM h)))).1 (e▸ .head _)
theorem H8(hk:k<=12)(r:Bc κ es l):(getL (du k) es).isSome=true:=by
 have f:=En.at hk r;cases q:mL l k with
 |none=>rw [q] at f;exact isSome_of f
 |some d=>rw [q] at f;obtain ⟨v,e, -⟩:=f;exact isSome_of e
section
variable{z:Z fi}
theorem St.setAttr(st:St z.c κ ρ σ s)(ht:τ.p κ){i cl k:Nat}{l:List (Nat×V)}{ov v:Value}{x:V}(hl:σ[i]? =some (.inst cl l))(ro:jy κ.ι ov i)(rv:RV κ v x)(hk:sH cl k=true)(hlen:l.length<=100)
  (h:∀s',dY z.c τ ρ (Lj σ i cl (oj l k x)) s'->Q () s'):aO z.M z.A (m7 ov (du k) v) Q E s:=by
 refine st.EN (G:=z.g s Q E λo=>m7 o (du k) v) hl ro λa dx es n hi h1 h2 rf nd RP=>st.vars.el λhm hv=>?_
 have YB:∀b∈[a,dx],b≠z.c.env.locals/\z.c.W.base.get? b=none:=λb hb=>⟨λe=>fQ st z.ok.loc (dU hi hb) e.symm,jH z.ok (st.cell _ _ _ hi hl rfl b hb).F⟩
 have N:News z.c.W.base z.c.env.locals s.heap (ledger s.heap z.c.W.base z.c.env.locals dx++(dx,dh es n)::[]):=λp hp=>by
  rcases bf.mp hp with hp|hp
  ·have:=rM.mp (hp);exact ⟨this.1,this.2.1,this.2.2.2⟩
  ·cases aA.mp hp;exact ⟨h2,(YB dx (.tail _ (.head _)))⟩
 have F:Fr z.c.W.base z.c.env.locals s.heap _:=⟨hm,λb o e=>st.kept b o (z.ok.base b o e),z.ok.above⟩
 refine zG (z.q_ st) (vV h1 h2) (z.kf.clsAt (mj hk).1).set (osa_dict F N (z.q_ (st.tok (s.toks+1))) (vV h1 h2) rfl (z.kf.clsAt (mj hk).1).over (z.kf.attr hk).2 (z.kf.clsAt (mj hk).1).dict (H8 (mj hk).2 rf)
  (λp hp=>(rM.mp (hp)).2.2.1) (λU h=>nomatch h) (tT ..) rfl ?_ λh' F' N'=>h _ (.mk ?_ ht))
 ·rw[(Bc.put (mj hk).2 rv rf).length];exact ac (nq nd).2.1 (ac (aw hlen) (aa rfl))
 have keep:∀b o,b≠dx->b≠z.c.env.locals->s.heap.get? b=some o->h'.get? b=some o:=λb o hb hbL e=>by
  cases hq:z.c.W.base.get? b with
  |some o'=>cases aF ((F.keep b o' hq).symm.trans e);exact F'.keep b o hq
  |none=>exact (N' (b,o) (bj _ (rM.mpr ⟨e,hbL,hb,hq⟩))).1
 have ha':=keep a _ (jp (SG st hi)) (YB a (.head _)).1 h1;have hd':=(N' _ (aU _ (.head _))).1
 exact st.BF z.ok hi hl rfl hv F'.ns (λb o hb=>keep b o λe=>hb (e▸ .tail _ (.head _))) (λb hb=>by
   rcases aN.mp hb with rfl|hb
   ·exact isSome_of ha'
   ·cases aA.mp hb;exact isSome_of hd') (.mk rfl ha' hd' (Bc.put (mj hk).2 rv rf) (nq nd).1 λp hp=>((nq nd).2.2 p hp).elim (λe=>e▸hk) λ⟨q,hq,e⟩=>e▸RP q hq)
theorem EU{k:Nat}{ov v:Value}{o x:V}(n:dY z.c ((τ.v v x).v ov o) ρ σ s){K:KSt}{X:Int->Env->Prop}(g:fR (toAttr k o x ρ σ) K X)(h:∀σ',K .next ρ σ'->∀s,dY z.c τ ρ σ' s->Q () s):aO z.M z.A (m7 ov (du k) v) Q E s:=n.two λκ st rv ro ht=>by
 cases o with
 |obj i=>
  have g:fR (O.eH σ[i]? (λcl l=>if (sH cl k&&b7 l.length 100)=true then .ok .next ρ (Lj σ i cl (oj l k x)) else .stuck) .stuck) K X:=g
  cases e:σ[i]? with
  |none=>rw [e] at g;exact g.elim
  |some w=>cases w with
   |inst cl l=>
    rw[e] at g;have g:fR (if (sH cl k&&b7 l.length 100)=true then .ok .next ρ (Lj σ i cl (oj l k x)) else .stuck) K X:=g
    by_cases q:(sH cl k&&b7 l.length 100)=true
    ·rw[if_pos q] at g;exact st.setAttr ht e ro rv (aj.mp q).1 (aa (aj.mp q).2) (h _ g)
    ·rw[if_neg q] at g;exact g.elim
   |_=>rw [e] at g;exact g.elim
 |_=>exact g.elim
end
section
theorem cb.Lk{o value:Expr}{k:Nat}{mo m:ME}(hm:aD fi value m)(ho:aD fi o mo)(hx:name=du k)(hs:∀env:aV,fU value (some (.Attribute o name pos')) pos.line env=pure false):cb fi (.Assign [.Attribute o name pos'] value pos) (BI m (Np k mo)):=λz U U U U U U st g=>by
 subst hx;exact plainObj_wpAny_Assign_Attribute (z9 hm z st g λx U g v s st=>ho z st (fR.nk g λo σ g ov s st=>EU st g λσ' g s st=>g _ st)) (hs _)
theorem Nx.nk{α:Type}{r:Res α}{ρ:Env}{k:α->Store->RS}(h:∀a σ,Nx (k a σ)):Nx (RS.nk r ρ k):=by
 cases r with
 |stuck=>trivial
 |ok a σ=>exact h a σ
 |exc k=>trivial
theorem toAttr_nx(k:Nat)(o x:V)(ρ:Env)(σ:Store):Nx (toAttr k o x ρ σ):=by
 cases o with
 |obj i=>
  show Nx (O.eH σ[i]? _ _);cases σ[i]? with
  |none=>trivial
  |some w=>cases w with
   |inst cl l=>
    show Nx (if _ then _ else _)
    split
    ·rfl
    ·trivial
   |_=>trivial
 |_=>trivial
theorem eZ.attr{o:Expr}{name:Str}{k:Nat}{pos:Pos}{mo:ME}(ho:aD fi o mo)(hx:name=du k):eZ fi (.Attribute o name pos) (Np k mo):=⟨λU U U U=>.nk λU U=>toAttr_nx ..,λz U U U U Q E v x st g=>by
 subst hx;show aO _ z.A (do
  let ov<-g9 [v] (eval o z.c.env)
  f' pos.atName
  g9 [v,ov] (m7 ov (du k) v)
  release [v,ov] []) _ _ _
 exact ao (dz (ho z st (fR.nk g λo σ g ov s st=>ao (eT (ao (dz (EU st g λσ' g s st=>wpAny_release' (g _ st))))))))⟩
noncomputable def wz(ts:List MT)(l:List V):MS:=match ts with
 |[]=>l.casesOn (motive:=λU=>MS) (λU ρ σ=>.ok .next ρ σ) λU U U U U=>.stuck
 |t::ts=>l.casesOn (motive:=λU=>MS) (λU U U=>.stuck) λx xs C ρ σ=>(t x C ρ σ).bind (wz ts xs C)
noncomputable def itemsOf(v:V):Option (List V):=v.jz (λl=>some (l.map .d))<|v.Df some none
noncomputable def Dq(ts:List MT):MT:=λv C ρ σ=>(itemsOf v).elim .stuck λxs=>if xs.length=ts.length then wz ts xs C ρ σ else .stuck
noncomputable def iC(fi:FI)(es:List Expr)(ts:List MT):Prop:=∀(z:Z fi) {τ:cO} {ρ:Env} {σ:Store} {s:aI} {Q:Pq Unit} {E:Pq Value} {vs:List Value} {xs:List V},dY z.c (τ.vs vs xs) ρ σ s->fR (wz ts xs z.C ρ σ) (Nn z.c τ Q) (H7 z.c E)->aO z.M z.A (rF ((l9 es z.c.env).map (·.2)) vs) Q E s
theorem iC.nil:iC fi [] []:=λz U U U U U U U xs st g=>by
 cases xs with
 |nil=>cases st with|mk st r=>rw [show _=[] from r.1];exact aG (g _ (.mk st r.2))
 |cons U J=>exact g.elim
theorem o9(h:isStar e=false):l9 (e::es) env=(false,EA e env)::l9 es env:=by
 cases e<;>first|rfl|cases h
theorem fR.next(h:fR (r.bind k) (Nn c τ Q) X)(g:∀ρ σ,fR (k ρ σ) (Nn c τ Q) X->∀s,dY c τ' ρ σ s->Q' () s):fR r (Nn c τ' Q') X:=by
 cases r with
 |stuck=>exact h
 |ok f ρ σ=>cases f with
  |next=>exact g ρ σ h
  |brk=>exact h
  |cont=>exact h
  |ret v=>exact h
 |exc k ρ=>exact h
theorem iC.cons(h:eZ fi e t)(hs:iC fi es ts)(he:isStar e=false):iC fi (e::es) (t::ts):=λz τ U U U Q E vs xs st g=>by
 cases xs with
 |nil=>exact g.elim
 |cons x xs=>
  exact st.el λst r=>kJ.elim (G:=λvs=>aO z.M z.A (rF ((l9 (e::es) z.c.env).map (·.2)) vs) Q E _) r.1 λv vs p q=>(o9 he)▸ao (dz (h.go z (τ:=τ.vs vs xs) (.mk st ⟨p,q,r.2⟩) (fR.next g λU U g s st=>hs z st g)))
theorem H9{es:List Expr}{env:aV}(h:d0 es=true):(l9 es env).length=es.length/\(l9 es env).findIdx? (·.1)=none:=by
 induction es with
 |nil=>exact ⟨rfl,rfl⟩
 |cons e r ih=>
  refine (aj.mp (show (!isStar e&&d0 r)=true from h)).elim λh1 h2=>?_
  rw[o9 ((fw _).mp h1)];refine (ih h2).elim λi1 i2=>⟨congrArg nL i1,?_⟩
  rw[List.findIdx?_cons,i2];rfl
theorem St.items{c:Cx}{κ:View}{ρ:Env}{σ:Store}{s:aI}{G:Value->Prop}(st:St c κ ρ σ s){v:Value}{x:V}{xs:List V}(r:RV κ v x)(h:itemsOf x=some xs)(k:∀a vs,s.heap.IsTuple a vs.toArray->o7 κ vs xs->G (.ref a)):G v:=by
 cases x with
 |d d=>cases d with
  |tup l=>cases h;exact dB.tup st.know r λa vs it r=>k a vs it r.toV
  |_=>cases h
 |tup l=>cases h;exact dB.tup st.know r k
 |_=>cases h
theorem St.ext{c:Cx}{κ:View}{ρ:Env}{σ:Store}{s:aI}(st:St c κ ρ σ s)(ok:c.Ok){h':Heap}{tk:Tok}(k:Heap.ExtBut s.heap.objs.size s.heap h'):St c κ ρ σ {s with heap:=h',toks:=tk}:=st.grow ok λb x e=>k b x (bT (cA e)) e
theorem fR.H'{α:Type}{o:Option α}{f:α->RS}{K:KSt}{X:Int->Env->Prop}(g:fR (o.elim .stuck f) K X):∃a,o=some a/\fR (f a) K X:=by
 cases o with
 |none=>exact g.elim
 |some a=>exact ⟨a,rfl,g⟩
theorem fR.ite{p:Prop} [Decidable p]{r:RS}{K:KSt}{X:Int->Env->Prop}(g:fR (if p then r else .stuck) K X):p/\fR r K X:=by
 by_cases q:p
 ·rw[if_pos q] at g;exact ⟨q,g⟩
 ·rw[if_neg q] at g;exact g.elim
theorem H_{es:List Expr}{ts:List MT}(h:∀t∈ts,∀x C ρ σ,Nx (t x C ρ σ)):∀xs C ρ σ,Nx (wz ts xs C ρ σ):=by
 induction ts with
 |nil=>intro xs;cases xs<;>exact λU U U=>(by first|rfl|trivial)
 |cons t ts ih=>
  intro xs C ρ σ;cases xs with
  |nil=>trivial
  |cons x xs=>
   show Nx ((t x C ρ σ).bind (wz ts xs C));have q:=h t (.head _) x C ρ σ;cases e:t x C ρ σ with
   |stuck=>trivial
   |ok f ρ' σ'=>rw [e] at q;cases q;exact ih (λt ht=>h t (.tail _ ht)) xs C ρ' σ'
   |exc k ρ'=>trivial
theorem eZ.tup{es:List Expr}{k:Nat}{pos:Pos}{ts:List MT}(h:iC fi es ts)(hs:d0 es=true)(hl:es.length=ts.length)(nx:∀t∈ts,∀x C ρ σ,Nx (t x C ρ σ)):eZ fi (.Tuple es k pos) (Dq ts):=⟨λx C ρ σ=>by
 show Nx ((itemsOf x).elim _ _);cases itemsOf x with
 |none=>trivial
 |some xs=>
  show Nx (if _ then _ else _)
  split
  ·exact H_ (es:=es) nx xs C ρ σ
  ·trivial,λz τ U U s Q E v x st g=>st.one λκ st rv ht=>by
 refine cps λP9 k9=>?_
 obtain ⟨xs,Nq,g⟩:=g.H';refine g.ite.elim λhlen g=>?_
 obtain ⟨n1,n2⟩:=H9 hs;refine k9 ?_;exact st.items (G:=λv=>aO z.M z.A (EA (.Tuple es k pos) z.c.env v) Q E s) rv Nq λa vs it r=>wpAny_assign_Tuple z.a.handled it (by rw[n1,aR,r.length,hlen,hl]) n2 λh' hk=>h z (.mk (st.ext z.ok hk) ⟨r,ht⟩) g⟩
theorem fR.asN(n:Nx r)(h:fR r (Bd c τ Q) X):fR r (Nn c τ λU s=>Q .next s) X:=by
 cases r with
 |stuck=>exact h
 |ok f ρ σ=>cases n;exact h
 |exc k ρ=>exact h
theorem cb.Pu(hm:aD fi value m)(ht:eZ fi (.Tuple es k Dr) t)(hs:∀env:aV,rG [.Tuple es k Dr] value pos.line env=pure false)
  (hw:∀env:aV,env.scope=fi.scope->iB [.Tuple es k Dr] value env=pure none):cb fi (.Assign [.Tuple es k Dr] value pos) (BI m t):=λz U U U U U U st g=>
 Assign_Tuple (z9 hm z st g λx U g v s st=>ht.go z st (g.asN (ht.nx ..))) (hs _) (hw _ (by rw[z.ok.scope,z.fi]))
noncomputable def Pw(i j:Nat):MT:=λv U ρ σ=>(itemsOf v).elim .stuck λl=>oh l (λx y=>.ok .next ((ρ.set j (some y)).set i (some x)) σ) .stuck
theorem Gk(z:Z fi){τ:cO}{ρ:Env}{σ:Store}{s:aI}{v:Value}{w a b:V}{Q:Pq (List Value)}{E:Pq Value}(st:dY z.c (τ.v v w) ρ σ s)(Nq:itemsOf w=some [a,b])(k:∀p q h',dY z.c ((τ.v p a).v q b) ρ σ {s with heap:=h'}->Q [p,q] {s with heap:=h'}):aO z.M z.A (vg v 2 none) Q E s:=
 st.one λκ st rv ht=>st.items (G:=λv=>aO z.M z.A (vg v 2 none) Q E s) rv Nq λt vs it r=>dp.two (G:=λvs=>s.heap.IsTuple t vs.toArray->aO z.M z.A (vg (.ref t) 2 none) Q E s) r.all (λp q rp rq it=>by
  rw[(show 2=[p,q].toArray.size from rfl)]
  exact wpAny_unpackItems_tuple z.a.handled it λh' hk=>k p q h' (.mk (st.ext z.ok hk) ⟨rq,rp,ht⟩)) it
theorem Go.YC{l:List V}{K:KSt}(g:fR (oh l f .stuck) K X):∃a b,l=[a,b]/\fR (f a b) K X:=by
 cases l with
 |nil=>exact g.elim
 |cons a l=>cases l with
  |nil=>exact g.elim
  |cons b l=>cases l with
   |nil=>exact ⟨a,b,rfl,g⟩
   |cons U J=>exact g.elim
theorem cb.Px{x y:Str}{i j:Nat}{value:Expr}{k:Nat}{px py Dr pos:Pos}{m:ME}(hm:aD fi value m)(hx:sP fi i x)(hy:sP fi j y)(hs:∀env:aV,rG [.Tuple [.Name x px,.Name y py] k Dr] value pos.line env=pure false)
  (hw:∀env:aV,env.scope=fi.scope->iB [.Tuple [.Name x px,.Name y py] k Dr] value env=pure (some [x,y])):cb fi (.Assign [.Tuple [.Name x px,.Name y py] k Dr] value pos) (BI m (Pw i j)):=λz τ U U U Q E st g=>
 Assign_Tuple_swapped (z9 hm z st g λw σ g v s st=>by
  refine cps λP9 k9=>?_
  obtain ⟨xs,Nq,g⟩:=g.H';obtain ⟨a,b,rfl,g⟩:=Go.YC g;refine k9 ?_;refine Gk z st Nq λp q h' st=>ao (dz (bindName_ (z.store hy st λSH wA=>?_)))
  show aO z.M z.A (do g9 [] (bindName z.c.env x p);rF [] []) _ _ _
  exact ao (dz (bindName_ (z.store hx wA.drop λYD BK=>aG (g _ BK.drop))))) (hs _) (hw _ (by rw[z.ok.scope,z.fi]))
end
noncomputable def nr(c:Cx):List Addr:=(c.env::c.outs.map (·.1)).filterMap (·.frame)
structure Still(c:Cx)(κ:View)(h h':Heap):Prop where
 slot:∀b o,iY c κ b->h.get? b=some o->∃sl,h'.get? b=some {o with slots:=sl}
 same:∀b o,iY c κ b->b∉nr c->h.get? b=some o->h'.get? b=some o
theorem Still.of(k:∀b,iY c κ b->h'.get? b=h.get? b):Still c κ h h':=⟨λb o a e=>⟨o.slots,(k b a).trans e⟩,λb o a U e=>(k b a).trans e⟩
theorem Ds(ok:c.Ok)(hc:c.fi.comp=false)(hb:b∈nr c):b=c.env.locals\/∃q∈c.outs,q.1.frame=some b:=by
 obtain ⟨env,h1,h2⟩:=sq.mp hb;rcases aN.mp h1 with rfl|h1
 ·exact .inl (aF (h2.symm.trans (ok.frame hc)))
 ·obtain ⟨q,h3,rfl⟩:=br.mp h1;exact .inr ⟨q,h3,h2⟩
theorem z_{c:Cx}(ok:c.Ok)(hq:q∈c.outs){L:Addr}(hL:q.1.frame=some L):L∈c.hid/\c.F L=none/\L∉c.own:=by
 refine cps λP9 k9=>?_
 obtain ⟨-, -,L',RL,h1,h2,h3⟩:=ok.outs q hq;obtain rfl:=aF (hL.symm.trans RL);refine k9 ?_;exact ⟨h1,h2,h3⟩
section
variable{M:pj}
theorem n7.SI(x:n7 c κ ρ e k s)(ok:c.Ok)(hc:c.fi.comp=false){b:Addr}(h:(c.F b).isSome\/(κ.B b).isSome):b∉nr c:=λhb=>by
 rcases Ds ok hc hb with rfl|⟨q,hq,hf⟩
 ·exact h.elim (gu (x.priv _ ok.loc).F) (gu (x.priv _ ok.loc).B)
 ·have o:=z_ ok hq hf;exact h.elim (gu o.2.1) (gu (x.hid _ o.1))
theorem n7.SJ(ok:c.Ok)(hc:c.fi.comp=false){b:Addr}(ho:b∈c.own)(Hn:b≠c.env.locals):b∉nr c:=λhb=>by
 rcases Ds ok hc hb with h|⟨q,hq,hf⟩
 ·exact Hn h
 ·exact (z_ ok hq hf).2.2 ho
theorem n7.Ia(x:n7 c κ ρ e k s)(ok:c.Ok)(hc:c.fi.comp=false){h':Heap}(hs:Still c κ s.heap h')(fly:yN (iY c κ) c.env.frame h' e k):n7 c κ ρ e k {s with heap:=h',toks:=tk}:=by
 have fF:∀b o,c.F b=some o->s.heap.get? b=some o->h'.get? b=some o:=λb o hF=>hs.same b o (.inl (isSome_of hF)) (x.SI ok hc (.inl (isSome_of hF)))
 have kc:∀y a v,c.env.cells.lookup y=some a->s.heap.IsCell a v->h'.IsCell a v:=λy a v ha ⟨o,ho,hd⟩=>⟨o,(ok.cellIn y a ha).elim (λRQ=>hs.same a o (.inr (.inr (.inl RQ))) (n7.SJ ok hc RQ (ok.cellOff y a ha)) ho) λhF=>some_at hF λo2 h2=>by
  cases (x.kept a o2 h2).symm.trans ho;exact fF a _ h2 ho,hd⟩
 exact {
  P:=x.P,rest:=x.rest,kept:=λb o hF=>fF b o hF (x.kept b o hF),hid:=x.hid,priv:=x.priv,fly:=fly
  know:=λb o hB=>hs.same b o (.inr (.inl (isSome_of hB))) (x.SI ok hc (.inr (isSome_of hB))) (x.know b o hB)
  outer:=λq hq=>⟨λL hL=>by
   obtain ⟨o,ho,hd⟩:=(x.outer q hq).at_ L hL;exact (hs.slot L o (.inr (.inr (.inr (z_ ok hq hL).1))) ho).elim λsl h1=>⟨_,h1,hd⟩⟩
  there:=λa ha=>some_at (x.there a ha) λo ho=>(hs.slot a o (.inr (.inr ha)) ho).elim λU h=>isSome_of h
  vars:=by
   refine cps λP9 k9=>?_
   refine x.vars.el λhm hv=>?_
   obtain ⟨o,es,ep,ho,hd,r⟩:=hm;refine (hs.slot _ o (.inr (.inr (.inl ok.loc))) ho).elim λsl h1=>?_
   refine k9 ?_;exact .mk ⟨_,es,ep,h1,hd,r⟩ λj y v e1 e2=>by
    obtain ⟨rv,Bm,hr⟩:=hv j y v e1 e2;exact ⟨rv,Bm.imp id λ⟨q,a,ha,w⟩=>⟨q,a,ha,kc y a _ ha w⟩,hr⟩
  cells:=λy a ha=>(x.cells y a ha).elim λv w=>⟨v,kc y a v ha w⟩}
inductive uc(L:Addr)(h:Heap)(e:Addr):Prop
 |mk {oe:Obj} {vs:Array Value} {T:Addr} {oT:Obj} {ts:Array Value}:h.get? e=some oe->oe.data= .fields vs->vs[1]? =some (.ref T)->T≠e->h.get? T=some oT->oT.data= .fields ts->ts[3]? =some (jY L)->uc L h e
theorem uc.el{b9:Prop}(h9:uc L h e)(k9:∀{oe:Obj} {vs:Array Value} {T:Addr} {oT:Obj} {ts:Array Value},h.get? e=some oe->oe.data= .fields vs->vs[1]? =some (.ref T)->T≠e->h.get? T=some oT->oT.data= .fields ts->ts[3]? =some (jY L)->b9):b9:=uc.rec k9 h9
theorem n7.frames(x:n7 c κ ρ e k s)(ok:c.Ok)(hc:c.fi.comp=false):s.heap.FunFrames c.W.base (c.env::c.outs.map (·.1)):=by
 refine ⟨by rw[ok.scope,ok.kind];exact nofun,?_,?_⟩
 ·refine x.vars.el λhm U=>?_
  obtain ⟨o,es,ep,ho,hd, -⟩:=hm;exact ⟨_,o,ok.frame hc,jH ok (x.priv _ ok.loc).F,ho,λvs q=>by rw[hd] at q;cases q⟩
 ·have:∀l:List (aV×Data),(∀q∈l,q∈c.outs)->s.heap.FunFrames c.W.base (l.map (·.1)):=λl=>by
   induction l with
   |nil=>exact λU=>trivial
   |cons q r ih=>
    intro h;refine cps λP9 k9=>?_
    obtain ⟨h1,h2,L',h3, -,h4, -⟩:=ok.outs q (h q (.head _));obtain ⟨o,ho,hd⟩:=(x.outer q (h q (.head _))).at_ L' h3;refine k9 ?_;exact ⟨h1,⟨L',o,h3,jH ok h4,ho,λvs e=>h2 vs (hd▸e)⟩,ih λp hp=>h p (.tail _ hp)⟩
  exact this _ λU h=>h
theorem wB(f:Array Value->Array Value)(o:Obj):(iw f o).dict=o.dict:=by
 obtain ⟨a,b,d,sl⟩:=o;cases d<;>rfl
theorem Dt{h:Heap}{a:Addr}{o:Obj}{vs:Array Value}(f:Array Value->Array Value)(ho:h.get? a=some o)(hd:o.data= .fields vs):(h.update a (iw f)).get? a=some (iw f o)/\(iw f o).data= .fields (f vs)/\∀b,b≠a->(h.update a (iw f)).get? b=h.get? b:=
 ⟨ff _ ho (Obj.isFreed_of_fields (sr hd f)),(sr hd f),λb hb=>oN _ _ (jp hb)⟩
theorem Ib{vs:Array Value}(h:i<vs.size)(v:Value):(vs.setIfInBounds i v)[i]? =some v:=by rw[Array.getElem?_setIfInBounds_self,if_pos h]
theorem EV(x:n7 c κ ρ e k s)(ok:c.Ok)(hc:c.fi.comp=false)(Kp:A.frames=some (c.env::c.outs.map (·.1))){head:Value}{Ll:Bool}{Q:Pq Unit}
  (h:∀s',n7 c κ ρ e k s'->uc c.env.locals s'.heap e->Q () s'):
  aO M A (do let a<-frameOf c.env;let pl<-entryPlaceOf c.env.locals Ll;let b<-Dc head a .none (jY c.env.locals) .none pl;setField (.ref e) 1 b) Q E s:=by
 refine x.fly.el @λoe vs dx es n t he h1 h2 hd h4 h5 a1 a2 wo U=>?_
 have YE:e∉nr c:=λhm=>by
  obtain ⟨U,o,ho,hnf⟩:=(x.frames ok hc).mem hm;cases aF (he.symm.trans ho);exact hnf vs hd
 have hav:∀b,b∈nr c->iY c κ b:=λb hb=>by
  rcases Ds ok hc hb with rfl|⟨q,hq,hf⟩
  ·exact .inr (.inr (.inl ok.loc))
  ·exact .inr (.inr (.inr (z_ ok hq hf).1))
 refine ao (wpAny_frameOf_fun Kp (x.frames ok hc) (ok.frame hc) λh₁ rh=>ao (wpAny_entryPlaceOf λpl hpl=>?_))
 refine ao (df ?_ (hpl.sizeOk5 _ _ _ _ _));have Ic:h₁.get? e=some oe:=(rh.2.1 e YE).trans he;have YF:e≠dx:=λq=>by
  subst q;cases aF (he.symm.trans h4);cases hd
 have h3:([head,dC c.env.locals,.none,jY c.env.locals,.none]++(if pl.isEmpty then jr 6 jR else pl)).toArray[3]? =some (jY c.env.locals):=rfl
 revert h3
 generalize ([head,dC c.env.locals,.none,jY c.env.locals,.none]++(if pl.isEmpty then jr 6 jR else pl)).toArray=fs
 intro h3;have hk:∀b o,h₁.get? b=some o->(h₁.push {cls:=.type "traceback",data:=.fields fs}).get? b=some o:=λb o=>az _
 have Xw:h₁.objs.size≠e:=fy (cA Ic);refine qo (hk _ _ Ic) hd wo ?_
 have up:=Dt (·.setIfInBounds 1 (dC h₁.objs.size)) (hk _ _ Ic) hd;have aT:¬iY c κ h₁.objs.size:=λq=>by
  have lt:s.heap.objs.size<=h₁.objs.size:=aW rh.1.symm;rcases q with q|q|q
  ·exact some_at q λo ho=>old_ne (isSome_of (x.kept _ o ho)) lt
  ·exact some_at q λo ho=>old_ne (isSome_of (x.know _ o ho)) lt
  ·exact old_ne (x.there _ q) lt
 refine h {s with heap:=_} (x.Ia ok hc ⟨λb o hb ho=>?_,λb o hb hbf ho=>?_⟩ (.mk up.1 ((Obj.cls_mapFields ..).trans h1) ((wB ..).trans h2) up.2.1 ((up.2.2 dx (jp YF)).trans (hk _ _ ((rh.2.1 dx λhb=>a2 (hav dx hb)).trans h4))) h5 a1 a2 (by rw[Array.size_setIfInBounds];exact wo)
  (.some (Ib wo (dC h₁.objs.size)) Xw (fy (cA ((rh.2.1 dx λhb=>a2 (hav dx hb)).trans h4))) aT ((up.2.2 _ Xw).trans (bC h₁ rfl)) rfl (.inr ⟨_,(ok.frame hc),h3⟩)))) (.mk up.1 up.2.1 (Ib wo (dC h₁.objs.size)) Xw ((up.2.2 _ Xw).trans (bC h₁ rfl)) rfl h3)
 ·obtain ⟨sl,e1⟩:=rh.2.2 b o ho;exact ⟨sl,(up.2.2 b λq=>a1 (q▸hb)).trans (hk _ _ e1)⟩
 ·exact (up.2.2 b λq=>a1 (q▸hb)).trans (hk _ _ ((rh.2.1 b hbf).trans ho))
theorem Aa(x:n7 c κ ρ e k s)(ok:c.Ok)(hc:c.fi.comp=false)(Kp:A.frames=some (c.env::c.outs.map (·.1))){Q:Pq Unit}
  (h:∀s',n7 c κ ρ e k s'->uc c.env.locals s'.heap e->Q () s'):aO M A (zH (.ref e) c.env) Q E s:=by
 unfold zH;simp only [(ok.frame hc)];refine x.fly.el @λoe vs dx es n t he h1 h2 hd h4 h5 a1 a2 wo hv=>?_
 cases hv with
 |none hv=>
  refine ao (eb he hd hv ?_);exact EV x ok hc Kp h
 |@some T oT ts hv t1 t2 t3 t4 t5 t6=>
  refine ao (eb he hd hv ?_);rcases t6 with t6|⟨l,hl,t6⟩
  ·refine ao (eb t4 t5 t6 ?_);have h3s:3<ts.size:=(cL.mp t6).1;refine ao (qo t4 t5 h3s ?_)
   have up:=Dt (·.setIfInBounds 3 jR) t4 t5;exact EV (x.Ia ok hc (.of λb hb=>up.2.2 b λq=>t3 (q▸hb)) (.mk ((up.2.2 e (jp t1)).trans he) h1 h2 hd ((up.2.2 dx (jp t2)).trans h4) h5 a1 a2 wo (.some hv t1 t2 t3 up.1 up.2.1 (.inl (Ib h3s _))))) ok hc Kp h
  ·obtain rfl:=aF ((ok.frame hc).symm.trans hl);refine ao (eb t4 t5 t6 ?_);rw[if_pos (beq_self_eq_true _)];exact aG (h s x (.mk he hd hv t1 t4 t5 t6))
theorem sT(x:n7 c κ ρ e k s)(ok:c.Ok)(hc:c.fi.comp=false)(fr:Option Addr)(Kp:fr=none\/fr=some c.env.locals){Q:Pq Unit}
  (h:∀s',n7 c κ ρ e k s'->yN (iY c κ) fr s'.heap e k->Q () s'):aO M A (setFlight (.ref e) fr) Q E s:=by
 refine x.fly.el @λoe vs dx es n t he h1 h2 hd h4 h5 a1 a2 wo hv=>?_
 cases hv with
 |none hv=>
  refine ao (eb he hd hv ?_);exact aG (h s x (.mk he h1 h2 hd h4 h5 a1 a2 wo (.none hv)))
 |@some T oT ts hv t1 t2 t3 t4 t5 t6=>
  refine ao (eb he hd hv ?_);refine qo t4 t5 (t6.elim (λq=>(cL.mp q).1) λ⟨_,_,q⟩=>(cL.mp q).1) ?_
  have up:=Dt (·.setIfInBounds 3 (fr.elim jR λf=>jY f)) t4 t5
  have fl:∀L:Option Addr,(fr=none\/fr=L)->yN (iY c κ) L (s.heap.update T (iw (·.setIfInBounds 3 (fr.elim jR λf=>jY f)))) e k:=λL hfL=>
   .mk ((up.2.2 e (jp t1)).trans he) h1 h2 hd ((up.2.2 dx (jp t2)).trans h4) h5 a1 a2 wo (.some hv t1 t2 t3 up.1 up.2.1 (by
    cases fr with
    |none=>exact .inl (Ib (t6.elim (λq=>(cL.mp q).1) λ⟨_,_,q⟩=>(cL.mp q).1) _)
    |some l=>exact .inr ⟨l,(hfL.elim nofun id).symm,Ib (t6.elim (λq=>(cL.mp q).1) λ⟨_,_,q⟩=>(cL.mp q).1) _⟩))
  exact h {s with heap:=_} (x.Ia ok hc (.of λb hb=>up.2.2 b λq=>t3 (q▸hb)) (fl _ ((ok.frame hc)▸Kp))) (fl fr (.inr rfl))
theorem Py(x:n7 c κ ρ e k s)(ok:c.Ok)(hc:c.fi.comp=false)(Kp:A.frames=some (c.env::c.outs.map (·.1)))(h:∀s',n7 c κ ρ e k s'->E' (.ref e) s'):
  A_ M A c.env (λv s'=>yb M A' c.env E' v s') (.ref e) s:=
 Aa x ok hc Kp λs' x' hh=>by
  refine hh.el @λoe vs T oT ts he' hd' hv' t1 t2 t3 t4=>ao (eb he' hd' hv' ?_)
  exact (if_neg (show¬((dC T==jR)=true) from nofun))▸(ok.frame hc)▸sT x' ok hc _ (.inr rfl) λud x'' U=>h ud x''
theorem Lm(x:n7 c κ ρ e k s)(ok:c.Ok)(hc:c.fi.comp=false)(Kp:A.frames=some (c.env::c.outs.map (·.1)))(h:∀s',n7 c κ ρ e k s'->yN (iY c κ) none s'.heap e k->Q () s'):
  aO M A (tU c.env (.ref e)) Q E s:=ao (Aa x ok hc Kp λs' x' hh=>sT x' ok hc none (.inl rfl) h)
end
section
variable{fi:FI}(z:Z fi)
theorem Z.Xx(hc:fi.comp=false):z.A.frames=some (z.c.env::z.c.outs.map (·.1)):=by rw[z.a.frames,z.fi,hc];rfl
theorem Z.nc(hc:fi.comp=false):z.c.fi.comp=false:=by rw[z.fi];exact hc
theorem Z.back(hc:fi.comp=false)(n:Bn z.c ρ k v s)(h:H7 z.c E k ρ):A_ z.M z.A z.c.env (λv ud=>yb z.M A' z.c.env E v ud) v s:=n.el λe x=>e▸Py x z.ok (z.nc hc) (z.Xx hc) λud x'=>h _ _ (.mk rfl x')
end
noncomputable def RS.loop(r:RS)(k:Env->Store->RS):RS:=match r with
 | .stuck=>.stuck
 | .ok f ρ σ=>Fl.casesOn (motive:=λU=>RS) f (k ρ σ) (.ok .next ρ σ) (k ρ σ) λv=>.ok (.ret v) ρ σ
 | .exc x ρ=>.exc x ρ
noncomputable def lF(n:Nat)(t:MB)(b:MS):MS:=match n with
 |0=>λU U U=>.stuck
 |n+1=>λC ρ σ=>RS.nk (t C ρ σ) ρ λq σ'=>cond q (RS.loop (b C ρ σ') (lF n t b C)) (.ok .next ρ σ')
noncomputable def Kq(r r':RS):Prop:=r≠ .stuck->r'=r
theorem Kq.loop{r:RS}{k k':Env->Store->RS}(h:∀ρ σ,Kq (k ρ σ) (k' ρ σ)):Kq (RS.loop r k) (RS.loop r k'):=by
 cases r with
 |stuck=>exact λU=>rfl
 |ok f ρ σ=>cases f with
  |next=>exact h ρ σ
  |cont=>exact h ρ σ
  |brk=>exact λU=>rfl
  |ret v=>exact λU=>rfl
 |exc k ρ=>exact λU=>rfl
theorem Kq.nk{α:Type}{r:Res α}{ρ:Env}{k k':α->Store->RS}(h:∀a σ,Kq (k a σ) (k' a σ)):Kq (RS.nk r ρ k) (RS.nk r ρ k'):=by
 cases r with
 |stuck=>exact λU=>rfl
 |ok a σ=>exact h a σ
 |exc k=>exact λU=>rfl
theorem Gl(t:MB)(b:MS)(C:nj){k k':Env->Store->RS}(h:∀ρ σ,Kq (k ρ σ) (k' ρ σ))(ρ:Env)(σ:Store):Kq (RS.nk (t C ρ σ) ρ λq σ'=>cond q (RS.loop (b C ρ σ') k) (.ok .next ρ σ')) (RS.nk (t C ρ σ) ρ λq σ'=>cond q (RS.loop (b C ρ σ') k') (.ok .next ρ σ')):=
 .nk λq σ'=>by
  cases q with
  |true=>exact .loop h
  |false=>exact λU=>rfl
theorem BL(t:MB)(b:MS)(C:nj):∀{m:Nat},n<=m->∀ρ σ,Kq (lF n t b C ρ σ) (lF m t b C ρ σ):=by
 induction n with
 |zero=>exact λU U U h=>absurd rfl h
 |succ n ih=>
  intro m h;cases m with
  |zero=>exact absurd h (Nat.not_succ_le_zero n)
  |succ m=>exact Gl t b C (ih (bK h))
open Classical in
noncomputable def om(t:MB)(b:MS):MS:=λC ρ σ=>if h:∃n,lF n t b C ρ σ≠ .stuck then lF h.choose t b C ρ σ else .stuck
theorem Gm(t:MB)(b:MS)(C:nj):Kq (lF n t b C ρ σ) (om t b C ρ σ):=λh=>by
 refine (dif_pos (⟨n,h⟩)).trans ?_;rcases oQ n (⟨n,h⟩:∃n,lF n t b C ρ σ≠ .stuck).choose with q|q
 ·exact BL t b C q ρ σ h
 ·exact (BL t b C q ρ σ (⟨n,h⟩:∃n,lF n t b C ρ σ≠ .stuck).choose_spec).symm
theorem BM(t:MB)(b:MS)(C:nj):om t b C ρ σ= .stuck\/∃n,om t b C ρ σ=lF n t b C ρ σ:=by
 by_cases hx:∃n,lF n t b C ρ σ≠ .stuck
 ·exact .inr ⟨_,dif_pos hx⟩
 ·exact .inl (dif_neg hx)
theorem fR.loop{r:RS}{k:Env->Store->RS}{c c':Cx}{τ τ':cO}{Q Q':Pq Flow}{X X':Int->Env->Prop}(h:fR (RS.loop r k) (Bd c τ Q) X)(w:∀ρ σ s,dY c' τ' ρ σ s->dY c τ ρ σ s)(w':∀v x ρ σ s,dY c' (τ'.v v x) ρ σ s->dY c (τ.v v x) ρ σ s)
  (g:∀ρ σ,fR (k ρ σ) (Bd c τ Q) X->∀s,dY c' τ' ρ σ s->Q' .next s/\Q' .cont s) (g1:∀s,Q .next s->Q' .brk s) (g3:∀v s,Q (.ret v) s->Q' (.ret v) s) (gx:∀k ρ,X k ρ->X' k ρ):fR r (Bd c' τ' Q') X':=by
 cases r with
 |stuck=>exact h
 |ok f ρ σ=>cases f with
  |next=>exact λs n=>(g ρ σ h s n).1
  |brk=>exact λs n=>g1 s (h s (w _ _ _ n))
  |cont=>exact λs n=>(g ρ σ h s n).2
  |ret v=>exact λv s n=>g3 v s (h v s (w' _ _ _ _ _ n))
 |exc k ρ=>exact gx k ρ h
theorem cb.Pz{fi:FI}{t:Expr}{b:List Stmt}{pos:Pos}{mt:MB}{mb:MS}(hc:fi.comp=false)(ht:cC fi t mt)(hb:eh fi b mb):cb fi (.While t b [] pos) (om mt mb):=λz τ ρ σ s Q E st g=>by
 rcases BM mt mb z.C with e|⟨N,e⟩
 ·rw[e] at g;exact g.elim
 ·rw[e] at g;refine wpAny_While (codeAny_whileLoop (λN s'=>∃ρ' σ',dY z.c τ ρ' σ' s'/\fR (lF N mt mb z.C ρ' σ') (Bd z.c τ Q) (H7 z.c E)) ?_ N ⟨ρ,σ,st,g⟩)
  rintro N s' ⟨ρ',σ',st,g⟩
  cases N with
  |zero=>exact g.elim
  |succ N=>
   refine ht z st ((fR.nk g λq σ₁ g s₁ st=>?_).mono (λU U h=>h) λk h v s n=>z.back hc n h)
   cases q with
   |false=>exact iK (g _ st)
   |true=>exact hb z st (fR.loop g (λU U U h=>h) (λU U U U U h=>h) (λρ σ g s st=>⟨⟨N,cy _,ρ,σ,st,g⟩,⟨N,cy _,ρ,σ,st,g⟩⟩) (λU h=>h) (λU U h=>h) λk ρ h v s n=>z.back hc n h)
noncomputable def Cx.lock(c:Cx)(wr:List Addr)(h:Heap):Cx:={c with F:=λa=>if a∈wr then h.get? a else c.F a,hid:=wr++c.hid}
structure Off(c:Cx)(κ:View)(wr:List Addr)(h:Heap):Prop where
 no:∀a∈wr,¬fP c κ a
 at_:∀a∈wr,(h.get? a).isSome
structure Clear(c:Cx)(wr:List Addr):Prop where
 F:∀a∈wr,c.F a=none
 own:∀a∈wr,a∉c.own
 hid:∀a∈wr,a∉c.hid
section
variable{c:Cx}{κ:View}{ρ:Env}{σ:Store}{s:aI}{wr:List Addr}
theorem Off.clear{h:Heap}(o:Off c κ wr h):Clear c wr:=⟨λa ha=>none_of λU e=>o.no a ha (.inl (isSome_of e)),λa ha q=>o.no a ha (.inr (.inr (.inl q))),λa ha q=>o.no a ha (.inr (.inr (.inr (.inl q))))⟩
theorem kC{h:Heap}{a:Addr}(ha:a∉wr):(c.lock wr h).F a=c.F a:=if_neg ha
theorem Ab{h:Heap}{a:Addr}(ha:a∈wr):(c.lock wr h).F a=h.get? a:=if_pos ha
theorem Gn{h h':Heap}(v:fh c κ ρ h):fh (c.lock wr h') κ ρ h:=by cases v with|mk a b=>exact .mk a b
theorem EW{h h':Heap}(v:fh (c.lock wr h') κ ρ h):fh c κ ρ h:=by cases v with|mk a b=>exact .mk a b
theorem St.lock(st:St c κ ρ σ s)(o:Off c κ wr s.heap):St (c.lock wr s.heap) κ ρ σ s:=
 have fr:∀a,Free c κ a->fP c κ a->Free (c.lock wr s.heap) κ a:=λa f m=>⟨(kC λq=>o.no a q m).trans f.F,f.B⟩
 {
  P:=st.P,rest:=st.rest,know:=st.know,outer:=st.outer,there:=st.there,nodup:=st.nodup,vars:=Gn st.vars,cells:=st.cells,plen:=st.plen,len:=st.len,store:=st.store
  kept:=λa x e=>by
   by_cases ha:a∈wr
   ·exact (Ab ha).symm.trans e
   ·exact st.kept a x ((kC ha).symm.trans e)
  hid:=λa ha=>(bf.mp ha).elim (λq=>⟨none_of λU e=>o.no a q (.inr (.inl (isSome_of e))),λh=>o.no a q (.inr (.inr (.inr (.inr h)))),o.at_ a q⟩) (st.hid a)
  priv:=λa ha=>⟨fr a (st.priv a ha).toFree (.inr (.inr (.inl ha))),(st.priv a ha).at_⟩
  cell:=λi as x h1 h2 h3 a ha=>fr a (st.cell i as x h1 h2 h3 a ha) (.inr (.inr (.inr (.inr (dU h1 ha)))))}
theorem Ac(ok:c.Ok){h:Heap}(o:Clear c wr):(c.lock wr h).Ok:=
 have bF:∀a,(c.F a).isSome->a∉wr:=λa e q=>gu (o.F a q) e
 {
  w:=ok.w,scope:=ok.scope,kind:=ok.kind,globals:=ok.globals,builtins:=ok.builtins,frame:=ok.frame,loc:=ok.loc,cellOwn:=ok.cellOwn,cellHas:=ok.cellHas,cellOff:=ok.cellOff,cellOne:=ok.cellOne,vars:=ok.vars,above:=ok.above
  base:=λa x e=>(kC (bF a (isSome_of (ok.base a x e)))).trans (ok.base a x e)
  outs:=λq hq=>by
   refine cps λP9 k9=>?_
   obtain ⟨h1,h2,L,h3,h4,h5,h6⟩:=ok.outs q hq;exact k9 ⟨h1,h2,L,h3,aU _ h4,(kC λh=>o.hid L h h4).trans h5,h6⟩
  cellIn:=λx a h=>(ok.cellIn x a h).imp id λhF=>by rw[kC (bF a hF)];exact hF
  apart:=λa ha hm=>(bf.mp hm).elim (λq=>o.own a q ha) (ok.apart a ha)
  hid:=λa ha=>(bf.mp ha).elim (λq=>jH ok (o.F a q)) (ok.hid a)}
noncomputable def Z.lock{fi:FI}(z:Z fi)(wr:List Addr)(h:Heap)(o:Clear z.c wr):Z fi:=⟨z.c.lock wr h,z.n,z.A,z.C,z.fi,Ac z.ok o,⟨z.a.handled,z.a.guards,z.a.frames,z.a.depth,z.a.units⟩,z.call⟩
theorem St.unlock{h:Heap}(st:St (c.lock wr h) κ ρ σ s)(o:Clear c wr)(oT:∀a∈wr,(h.get? a).isSome):St c κ ρ σ s/\Off c κ wr s.heap/\∀a∈wr,s.heap.get? a=h.get? a:=
 have hw:∀a∈wr,EE κ s.heap a:=λa ha=>st.hid a (bj _ ha)
 have fr:∀a,a∉wr->Free (c.lock wr h) κ a->Free c κ a:=λa n f=>⟨(kC n).symm.trans f.F,f.B⟩
 ⟨{
   P:=st.P,rest:=st.rest,know:=st.know,outer:=st.outer,there:=st.there,nodup:=st.nodup,vars:=EW st.vars,cells:=st.cells,plen:=st.plen,len:=st.len,store:=st.store
   kept:=λa x e=>st.kept a x ((kC λq=>gr (o.F a q) e).trans e)
   hid:=λa ha=>st.hid a (aU _ ha)
   priv:=λa ha=>⟨fr a (λq=>o.own a q ha) (st.priv a ha).toFree,(st.priv a ha).at_⟩
   cell:=λi as x h1 h2 h3 a ha=>fr a (λq=>(hw a q).ι (dU h1 ha)) (st.cell i as x h1 h2 h3 a ha)},
  ⟨λa ha m=>by
   rcases m with m|m|m|m|m
   ·exact gu (o.F a ha) m
   ·exact gu (hw a ha).B m
   ·exact o.own a ha m
   ·exact o.hid a ha m
   ·exact (hw a ha).ι m,λa ha=>(hw a ha).at_⟩,λa ha=>some_at (oT a ha) λx e=>(st.kept a x ((Ab ha).trans e)).trans e.symm⟩
theorem n7.unlock{h:Heap}{e:Addr}{k:Int}(st:n7 (c.lock wr h) κ ρ e k s)(o:Clear c wr):n7 c κ ρ e k s:=
 {
  P:=st.P,rest:=st.rest,know:=st.know,outer:=st.outer,vars:=EW st.vars,cells:=st.cells
  kept:=λa x e=>st.kept a x ((kC λq=>gr (o.F a q) e).trans e)
  hid:=λa ha=>st.hid a (aU _ ha)
  priv:=λa ha=>⟨(kC λq=>o.own a q ha).symm.trans (st.priv a ha).F,(st.priv a ha).B⟩
  there:=λa ha=>st.there a (ha.imp id (aU _))
  fly:=st.fly.up (λb hb=>hb.imp ((λb e=>by rw[kC λq=>gu (o.F b q) e];exact e:∀b,(c.F b).isSome->((c.lock wr h).F b).isSome) b) λhb=>hb.imp id λhb=>hb.imp id (aU _)) λU U U e=>e}
theorem St.mq(st:St c κ ρ σ s)(o:Off c κ wr s.heap){h':Heap}{tk:Tok}(ok:c.Ok)(k:∀b x,b∉wr->s.heap.get? b=some x->h'.get? b=some x):St c κ ρ σ {s with heap:=h',toks:=tk}:=st.keep ok λb x m=>k b x λq=>o.no b q m
end
inductive Drawn(κ:View)(size:Nat)(h:Heap)(v:Value)(x:V):Prop
 |old:RV κ v x->Drawn κ size h v x
 |new {T:Addr} {o:Obj} {vs:List Value} {n:Nat} {l:List D}:v= .ref T->x= .d (.tup l)->size<=T->h.get? T=some o->o.cls= .type "tuple"->o.data= .seq vs.toArray n->fI κ.B vs l->Drawn κ size h v x
structure Gp(wr:List Addr)(κ:View)(h:Heap)(A:dX)(s:aI):Prop where
 hd:A.handled=none
 same:∀b∈wr,s.heap.get? b=h.get? b
 sub:Sub κ.B s.heap
noncomputable def Kept(wr:List Addr)(h h':Heap):Prop:=∀b x,b∉wr->h.get? b=some x->h'.get? b=some x
noncomputable def Turn(W:Wd)(target:Expr)(it:Value)(wr:List Addr)(κ:View)(xs:List V):Heap->Prop:=match xs with
 |[]=>λh=>∀(A:dX) (s:aI) (Q:Pq (Option Value)) (E:Pq Value),Gp wr κ h A s->(∀h' tk,Kept wr s.heap h'->Q none {s with heap:=h',toks:=tk})->aO (bS W.prog W.w) A (pyNext it) Q E s
 |x::xs=>λh=>∀(A:dX) (s:aI) (Q:Pq (Option Value)) (E:Pq Value),Gp wr κ h A s->
   (∀v h₁ EX,(∀(A':dX) (Q':Pq Unit) (E':Pq Value),A'.handled=none->(∀h' tk,Kept wr s.heap h'->(∀b∈wr,(h'.get? b).isSome)->Drawn κ s.heap.objs.size h' v x->Turn W target it wr κ xs h'->Q' () {s with heap:=h',toks:=tk})->
     aO (bS W.prog W.w) A' (iL target it v) Q' E' {s with heap:=h₁,toks:=EX})->Q (some v) {s with heap:=h₁,toks:=EX})->aO (bS W.prog W.w) A (pyNext it) Q E s
noncomputable def SK(W:Wd)(it:Value)(wr:List Addr)(κ:View)(h:Heap):Prop:=∀(A:dX) (s:aI) (Q:Pq Value) (E:Pq Value),Gp wr κ h A s->Q it s->aO (bS W.prog W.w) A (gT it) Q E s
structure Loop(c:Cx)(target:Expr)(it:Value)(τ:cO)(κ:View)(ρ:Env)(σ:Store)(wr:List Addr)(xs:List V)(s:aI):Prop where
 st:St c κ ρ σ s
 ht:τ.p κ
 off:Off c κ wr s.heap
 turn:Turn c.W target it wr κ xs s.heap
 self:SK c.W it wr κ s.heap
noncomputable abbrev MI:=nj->Env->M (List V)
noncomputable def KLp(c:Cx)(target:Expr)(τ:cO)(ρ:Env)(Q:Pq Value):List V->Store->Prop:=λxs σ=>∀it κ wr s,Loop c target it τ κ ρ σ wr xs s->Q it s
noncomputable def fW(fi:FI)(iter target:Expr)(mi:MI):Prop:=∀(z:Z fi) {τ:cO} {ρ:Env} {σ:Store} {s:aI} {Q E:Pq Value},dY z.c τ ρ σ s->Go (mi z.C ρ σ) (KLp z.c target τ ρ Q) (KE z.c ρ E)->aO z.M z.A (eval iter z.c.env) (λx s₁=>aO z.M z.A (gT x) Q E s₁) E s
noncomputable def jf(xs:List V)(t:MT)(b:MS):MS:=match xs with
 |[]=>λU ρ σ=>.ok .next ρ σ
 |x::xs=>λC ρ σ=>(t x C ρ σ).bind λρ' σ'=>RS.loop (b C ρ' σ') (jf xs t b C)
noncomputable def YG(it:MI)(t:MT)(b:MS):MS:=λC ρ σ=>RS.nk (it C ρ σ) ρ λxs σ'=>jf xs t b C ρ σ'
noncomputable def cO.ge(τ:cO)(eS:View):cO:=⟨λκ=>eS.le κ/\τ.p κ,λl h=>⟨h.1.trans l,τ.up l h.2⟩⟩
theorem St.tell{c:Cx}{κ:View}{ρ:Env}{σ:Store}{s:aI}{a:Addr}{o:Obj}(st:St c κ ρ σ s)(n:¬fP c κ a)(e:s.heap.get? a=some o):κ.le (κ.add a o)/\St c (κ.add a o) ρ σ s:=
 have no:∀b,fP c κ b->ins κ.B a o b=κ.B b:=λb m=>wb λq=>n (q▸m)
 ⟨(View.zJ o (none_of λU q=>n (.inr (.inl (isSome_of q))))),st.EF (View.zJ o (none_of λU q=>n (.inr (.inl (isSome_of q))))).B (zL st.know e) λb hb=>by
  rcases hb with h|h|⟨i,as,o',h1,h2,h3,h4⟩
  ·exact (no b (.inr (.inr (.inl h)))).trans (st.priv b h).B
  ·exact (no b (.inr (.inr (.inr (.inl h))))).trans (st.hid b h).B
  ·exact (no b (.inr (.inr (.inr (.inr (dU h1 h4)))))).trans (st.cell i as o' h1 h2 h3 b h4).B⟩
theorem Off.tell{c:Cx}{κ:View}{wr:List Addr}{h:Heap}{a:Addr}{o:Obj}(f:Off c κ wr h)(n:a∉wr):Off c (κ.add a o) wr h:=⟨λb hb m=>f.no b hb (m.imp id λm=>m.imp (λq=>by rw[show (κ.add a o).B b=κ.B b from wb λe=>n (e▸hb)] at q;exact q) id),f.at_⟩
theorem St.drawn{c:Cx}{κ eS:View}{ρ:Env}{σ:Store}{s:aI}{wr:List Addr}{h':Heap}{tk:Tok}{τ:cO}{P:Prop}(st:St c κ ρ σ s)(ok:c.Ok)(o:Off c κ wr s.heap)(ht:(τ.ge eS).p κ)(k:Kept wr s.heap h')(hs:∀b∈wr,(h'.get? b).isSome){v:Value}{x:V}(d:Drawn eS s.heap.objs.size h' v x)
  (g:∀κ',St c κ' ρ σ {s with heap:=h',toks:=tk}->Off c κ' wr h'->((τ.ge eS).v v x).p κ'->κ.le κ'->P):P:=by
 cases d with
 |old r=>exact g κ (st.mq o ok k) ⟨o.no,hs⟩ ⟨RV.mono ht.1 _ r,ht⟩ (.refl κ)
 |@new T ob vs n l e1 e2 hT ho h1 h2 r=>
  have t:=(st.mq (tk:=tk) o ok k).tell (λm=>old_ne (st.lt m) hT) ho
  subst e1 e2;exact g _ t.2 (Off.tell ⟨o.no,hs⟩ λe=>old_ne (o.at_ T e) hT) ⟨.mk rfl (gz _ _ _) h1 h2 nofun ((r.mono ht.1.B).mono t.1.B),(τ.ge eS).up t.1 ht⟩ t.1
inductive Ie{fi:FI}(z:Z fi)(target:Expr)(it:Value)(τ:cO)(eS:View)(wr:List Addr)(mt:MT)(mb:MS)(Q:Pq Flow)(E:Pq Value)(N:Nat)(s:aI):Prop
 |mk {xs:List V} {κ:View} {ρ:Env} {σ:Store} {h:Heap}:N=xs.length->St z.c κ ρ σ s->(τ.ge eS).p κ->Off z.c κ wr s.heap->(∀b∈wr,s.heap.get? b=h.get? b)->Turn z.c.W target it wr eS xs h->fR (jf xs mt mb z.C ρ σ) (Bd z.c τ Q) (H7 z.c E)->Ie z target it τ eS wr mt mb Q E N s
theorem Ie.el{fi:FI}{z:Z fi}{target:Expr}{it:Value}{τ:cO}{eS:View}{wr:List Addr}{mt:MT}{mb:MS}{Q:Pq Flow}{E:Pq Value}{N:Nat}{s:aI}{b9:Prop}(h9:Ie z target it τ eS wr mt mb Q E N s)(k9:∀{xs:List V} {κ:View} {ρ:Env} {σ:Store} {h:Heap},N=xs.length->St z.c κ ρ σ s->(τ.ge eS).p κ->Off z.c κ wr s.heap->(∀b∈wr,s.heap.get? b=h.get? b)->Turn z.c.W target it wr eS xs h->fR (jf xs mt mb z.C ρ σ) (Bd z.c τ Q) (H7 z.c E)->b9):b9:=Ie.rec k9 h9
theorem fR.SM{r:RS}{k:Env->Store->RS}{c':Cx}{τ':cO}{K:KSt}{Q':Pq Unit}{X X':Int->Env->Prop}(n:Nx r)(h:fR (r.bind k) K X)(g:∀ρ σ,fR (k ρ σ) K X->∀s,dY c' τ' ρ σ s->Q' () s)(gx:∀k ρ,X k ρ->X' k ρ):fR r (Nn c' τ' Q') X':=by
 cases r with
 |stuck=>exact h
 |ok f ρ σ=>cases n;exact g ρ σ h
 |exc k ρ=>exact gx k ρ h
theorem cb.YH{fi:FI}{target iter:Expr}{b:List Stmt}{pos:Pos}{mi:MI}{mt:MT}{mb:MS}(hc:fi.comp=false)(hi:fW fi iter target mi)(ht:eZ fi target mt)(hb:eh fi b mb)
  (hs:∀(env:aV) (x:Value),fE iter env x=pure x):cb fi (.For target iter b [] pos) (YG mi mt mb):=λz τ ρ σ s Q E st g=>by
 refine wpAny_For (hi z st (fR.nk g λxs σ g it eS wr s lp=>?_)) (hs _)
 refine codeAny_forLoop_any (Ie z target it τ eS wr mt mb Q E) ?_ xs.length (.mk rfl lp.st ⟨View.le.refl _,lp.ht⟩ lp.off (λU U=>rfl) lp.turn g)
 intro N s i;refine i.el @λxs κ ρ σ h e st Be off same turn g=>?_
 have as:Gp wr eS h z.A s:=⟨z.a.handled,same,λa o e=>st.know a o (Be.1.B a o e)⟩
 cases xs with
 |nil=>exact turn z.A s _ _ as λh' tk k=>iK (g _ (.mk (st.mq off z.ok k) Be.2))
 |cons x xs=>
  refine turn z.A s _ _ as λv h₁ EX go=>go z.A _ _ z.a.handled λh' tk k yV dr EY=>st.drawn (tk:=tk) z.ok off Be k yV dr λκ st off Be U=>?_
  have cl:=off.clear;have un:∀{τ':cO} {ρ σ s},dY (z.c.lock wr h') τ' ρ σ s->∃κ,St z.c κ ρ σ s/\τ'.p κ/\Off z.c κ wr s.heap/\∀a∈wr,s.heap.get? a=h'.get? a:=λn=>n.el λst h=>by have u:=st.unlock cl yV;exact ⟨_,u.1,h,u.2⟩
  have bx:∀k ρ,H7 z.c E k ρ->∀v s,Bn (z.c.lock wr h') ρ k v s->A_ z.M z.A z.c.env (λv ud=>yb z.M z.A z.c.env E v ud) v s:=λk ρ h v s n=>z.back hc (by cases n with|mk e x=>exact .mk e (x.unlock cl)) h
  refine ht.go (z.lock wr h' cl) (.mk (st.lock off) Be) (fR.SM (ht.nx ..) g (λρ σ g s st=>?_) bx)
  refine hb (z.lock wr h' cl) st (fR.loop g (λU U U n=>(un n).elim λκ u=>.mk u.1 u.2.1.2) (λU U U U U n=>(un n).elim λκ u=>.mk u.1 ⟨u.2.1.1,u.2.1.2.2⟩) (λρ σ g s n=>?_) (λU h=>h) (λU U h=>h) bx)
  refine cps λP9 k9=>?_
  obtain ⟨κ,u1,u2,u3,u4⟩:=un n;exact k9 ⟨⟨_,e▸cy _,(.mk rfl u1 u2 u3 u4 EY g)⟩,⟨_,e▸cy _,(.mk rfl u1 u2 u3 u4 EY g)⟩⟩
section
variable{fp wr:List Addr}{κ:View}
theorem qz(Gq:∀b∈fp,b∈wr\/(κ.B b).isSome)(hB:Sub κ.B h)(a:Gp wr κ h A s):∀b∈fp,∀o,h.get? b=some o->s.heap.get? b=some o:=λb hb o ho=>
 (Gq b hb).elim (λq=>(a.same b q).trans ho) λq=>some_at q λo' e=>(a.sub b o' e).trans ((hB b o' e).symm.trans ho)
theorem BN(SN:∀b∈wr,κ.B b=none)(hB:Sub κ.B h)(k:Kept wr h h'):Sub κ.B h':=λb o e=>k b o (λq=>gr (SN b q) e) (hB b o e)
theorem shift{P:Nat->Prop}(h:P (i+1+j)):P (i+(j+1)):=cq i j▸h
theorem Turn.ofWalks{P:Nat->Value->Prop}{St:Nat->Heap->Prop}(hW:∀A:dX,A.handled=none->rE W.prog W.w A I fp wr n P St)(Gq:∀b∈fp,b∈wr\/(κ.B b).isSome)(SN:∀b∈wr,κ.B b=none)(Ln:∀i h,St i h->∀b∈wr,(h.get? b).isSome)
  (YI:∀i (v:Value) (A:dX) (s:aI) (Q:Pq Unit) (E:Pq Value),St i s.heap->Q () s->aO (bS W.prog W.w) A (iL target (.ref I) v) Q E s) {xs:List V}:
  ∀{i:Nat} {h:Heap},n=i+xs.length->(∀j v x,P (i+j) v->xs[j]? =some x->RV κ v x)->St i h->Sub κ.B h->Turn W target (.ref I) wr κ xs h:=by
 induction xs with
 |nil=>exact λhn U uS hB A s Q E a hq=>(hW A a.hd).done s Q E ((hW A a.hd).frame _ _ _ (hn▸uS) (qz Gq hB a)) hq
 |cons x xs ih=>
  intro i h hn hP uS hB A s Q E a hq;exact (hW A a.hd).item i s Q E (hn▸dj (bU _)) ((hW A a.hd).frame _ _ _ uS (qz Gq hB a)) λv h' tk hp Gr hk=>hq v h' tk λA' Q' E' hA' SO=>YI (i+1) v A' _ Q' E' Gr (SO h' tk hk (Ln _ _ Gr) (.old (hP 0 v x hp rfl)) (ih (hn.trans (cq ..).symm) (λj v x h=>hP (j+1) v x (shift (P:=λi=>P i v) h)) Gr (BN SN a.sub hk)))
theorem Turn.sU{yW:List Addr}{Ig:List Expr}{k:Nat}{pos:Pos}{Pt:Nat->Array Value->Prop}{St:Nat->Heap->Prop}{YJ:Nat->Addr->Heap->Prop}(hW:∀A:dX,A.handled=none->EB W.prog W.w A I fp yW n Pt St YJ)(PA:∀b∈yW,b∈wr)(Gq:∀b∈fp,b∈wr\/(κ.B b).isSome)(SN:∀b∈wr,κ.B b=none)(Ln:∀i h,St i h->∀b∈wr,(h.get? b).isSome){xs:List V}:
  ∀{i:Nat} {h:Heap},n=i+xs.length->(∀j vals x,Pt (i+j) vals->xs[j]? =some x->∃l,x= .d (.tup l)/\fI κ.B vals.toList l)->St i h->Sub κ.B h->Turn W (.Tuple Ig k pos) (.ref I) wr κ xs h:=by
 have kk:∀{h h':Heap},(∀b o,b∉yW->h.get? b=some o->h'.get? b=some o)->Kept wr h h':=λf b o hb=>f b o λq=>hb (PA b q)
 induction xs with
 |nil=>exact λhn U uS hB A s Q E a hq=>(hW A a.hd).done s Q E ((hW A a.hd).frame _ _ _ (hn▸uS) (qz Gq hB a)) λh' tk f=>hq h' tk (kk f)
 |cons x xs ih=>
  intro i h hn hP uS hB A s Q E a hq;refine (hW A a.hd).item i s Q E (hn▸dj (bU _)) ((hW A a.hd).frame _ _ _ uS (qz Gq hB a)) λT vals h₁ tk hp wo hT hm hk=>hq (.ref T) h₁ tk λA' Q' E' hA' SO=>(hW A' hA').go Ig k pos i T {s with heap:=h₁,toks:=tk} Q' E' hm λh' Gr hk'=>?_
  obtain ⟨l,rfl,r⟩:=hP 0 vals x hp rfl;obtain ⟨o,ho,hc,m,hda⟩:=hT;exact SO h' tk (λb o hb e=>kk hk' b o hb (kk hk b o hb e)) (Ln _ _ Gr) (.new rfl rfl wo (hk' T o ((hW A a.hd).apart i T _ hm) ho) hc hda r) (ih (hn.trans (cq ..).symm) (λj v x h=>hP (j+1) v x (shift (P:=λi=>Pt i v) h)) Gr (BN SN a.sub (λb o hb e=>kk hk' b o hb (kk hk b o hb e))))
end
noncomputable def Ih(v:V):M (List V):=v.jz (λl=>M.ret (l.map .d))<|v.c7 (λl=>M.ret (l.map .d)) M.no
noncomputable def SP(e:ME):MI:=λC ρ=>(e C ρ).bind Ih
theorem BO{M:pj}{A:dX}{s:aI}{target:Expr}{I:Addr}{v:Value}{o:Obj}{nm:String}{Q:Pq Unit}{E:Pq Value}(ho:s.heap.get? I=some o)(hc:o.cls= .type nm)
  (hn:["enumerate","zip","dict_itemiterator","dict_reverseitemiterator","odict_iterator","itertools.zip_longest","itertools.pairwise"].contains nm=false) (h:Q () s):aO M A (iL target (.ref I) v) Q E s:=by
 have key:aO M A (do
   let (.ref r,.ref a):=(dC I,v)|return
   let o<-load r
   match o.cls,o.data with
   | .type n,.fields vs=>
    if ["enumerate","zip","dict_itemiterator","dict_reverseitemiterator","odict_iterator","itertools.zip_longest","itertools.pairwise"].contains n&&vs[0]? ==some (jY a) then
     rule "for.unpacks-the-owned-tuple"
     updateField r 0 .none
   |_,_=>pure ()) Q E s:=by
  cases v with
  |ref a=>
   refine ao (wpAny_load ho ?_);obtain ⟨cls,dd,data,sl⟩:=o;obtain rfl:=hc;cases data with
   |fields vs=>
    show aO M A (if (_&&_)=true then _ else _) Q E s
    simp only [hn,xW,if_neg si];exact aG h
   |_=>exact aG h
  |_=>exact aG h
 cases target with
 |Tuple=>exact key
 |List=>exact key
 |_=>exact aG h
section
variable{z:Z fi}
theorem St.Ii(st:St z.c κ ρ σ s)(hw:∀a∈wr,s.heap.objs.size<=a)(hs:∀a∈wr,(h'.get? a).isSome):Off z.c κ wr h':=⟨λa ha m=>old_ne (st.lt m) (hw a ha),hs⟩
theorem Loop.ofWalks{P:Nat->Value->Prop}{h':Heap}(hW:∀A:dX,A.handled=none->rE z.c.W.prog z.c.W.w A I fp wr n P Sh)(st:St z.c κ ρ σ s)(ht:τ.p κ)(hw:∀a∈wr,s.heap.objs.size<=a)(k:∀b o,s.heap.get? b=some o->h'.get? b=some o)(Gq:∀b∈fp,b∈wr\/(κ.B b).isSome)
  (Ln:∀i h,Sh i h->∀b∈wr,(h.get? b).isSome) (YI:∀i (v:Value) (A:dX) (s:aI) (Q:Pq Unit) (E:Pq Value),Sh i s.heap->Q () s->aO z.M A (iL target (.ref I) v) Q E s) (hn:n=xs.length) (hP:∀j v x,P j v->xs[j]? =some x->RV κ v x) (h0:Sh 0 h'):
  Loop z.c target (.ref I) τ κ ρ σ wr xs {s with heap:=h',toks:=tk}:=
 ⟨(st.grow (tk:=tk) z.ok k),ht,st.Ii hw (Ln 0 _ h0),Turn.ofWalks hW Gq (λb hb=>st.F5 (hw b hb)) Ln YI (hn.trans (bA _).symm) (λj v x h=>hP j v x (bA j▸h)) h0 (st.grow z.ok k).know,λA s Q E a hq=>(hW A a.hd).self 0 s Q E ((hW A a.hd).frame _ _ _ h0 (qz Gq (st.grow (tk:=tk) z.ok k).know a)) hq⟩
theorem Loop.sU{yW:List Addr}{k:Nat}{Pt:Nat->Array Value->Prop}{YJ:Nat->Addr->Heap->Prop}{tk:Tok}(hW:∀A:dX,A.handled=none->EB z.c.W.prog z.c.W.w A I fp yW n Pt Sh YJ)(PA:∀b∈yW,b∈wr)(st:St z.c κ ρ σ s)(ht:τ.p κ)
  (hw:∀a∈wr,s.heap.objs.size<=a) (kp:∀b o,s.heap.get? b=some o->h'.get? b=some o) (Gq:∀b∈fp,b∈wr\/(κ.B b).isSome) (Ln:∀i h,Sh i h->∀b∈wr,(h.get? b).isSome) (hn:n=xs.length) (hP:∀j vals x,Pt j vals->xs[j]? =some x->∃l,x= .d (.tup l)/\fI κ.B vals.toList l) (h0:Sh 0 h'):
  Loop z.c (.Tuple Ig k pos) (.ref I) τ κ ρ σ wr xs {s with heap:=h',toks:=tk}:=
 ⟨(st.grow (tk:=tk) z.ok kp),ht,st.Ii hw (Ln 0 _ h0),Turn.sU hW PA Gq (λb hb=>st.F5 (hw b hb)) Ln (hn.trans (bA _).symm) (λj v x h=>hP j v x (bA j▸h)) h0 (st.grow z.ok kp).know,λA s Q E a hq=>(hW A a.hd).self 0 s Q E ((hW A a.hd).frame _ _ _ h0 (qz Gq (st.grow (tk:=tk) z.ok kp).know a)) hq⟩
theorem ey{a b:Addr}(h:b∈[a]){p:Addr->Prop}(ha:p a):p b:=aA.mp h▸ha
theorem EZ{a b I:Addr}{κ:View}(hB:(κ.B a).isSome):∀b∈[I,a],b∈[I]\/(κ.B b).isSome:=λb hb=>(aN.mp hb).imp (λe=>aA.mpr e) λq=>ey (p:=λb=>(κ.B b).isSome) q hB
theorem Ij{l:List D}(r:fI κ.B vs l){j:Nat}{x:V}(hv:vs.toArray[j]? =some v)(hx:(l.map V.d)[j]? =some x):RV κ v x:=by
 refine (r.all.at ((bV ..).symm.trans hv)).elim λd z0=>z0.elim λhd hr=>?_
 obtain ⟨d',hd',rfl⟩:=rJ hx;obtain rfl:=aF (hd.symm.trans hd');exact hr
theorem nt{h:Heap}{q:Obj->Prop}(x:∃o,h.get? a=some o/\q o):(h.get? a).isSome:=x.elim λU y=>isSome_of y.1
end
theorem fW.each{fi:FI}{iter target:Expr}{m:ME}(h:aD fi iter m):fW fi iter target (SP m):=λz τ ρ U U Q E st g=>h z st (g.seq λx σ g v s n=>n.one λκ st rv ht=>rv.wd g (λl rv g=>
 dB.elim (G:=z.g s Q E gT) rv λa o vs n e1 e2 e3 U r=>
  have it:s.heap.IsTuple a vs.toArray:=⟨_,st.know _ _ e1,e2,_,e3⟩
  l8 it (g _ κ [s.heap.objs.size] _ (Loop.ofWalks (λA hA=>u9 hA s.heap.objs.size a (bT (mn it)) vs.toArray) st ht (λb hb=>ey hb (ax _)) (λU U e=>az _ e) (EZ (b:=a) (isSome_of e1))
   (λi h uS b hb=>ey (p:=λb=>(h.get? b).isSome) hb (nt uS.1)) (λi v A s Q E uS hq=>uS.1.elim λo q=>BO q.1 q.2.1 (rfl) hq) (by rw[aR,r.length,af]) (λj v x=>Ij r) ⟨⟨_,bC _ rfl,rfl,rfl⟩,it.push _⟩))) λg=>rv.hZ g (λl rv g=>
 dB.elim (G:=z.g s Q E gT) rv λa o vs n e1 e2 e3 U r=>
  have it:s.heap.IsList a vs.toArray:=⟨_,st.know _ _ e1,e2,_,e3⟩
  mD it (g _ κ [s.heap.objs.size] _ (Loop.ofWalks (λA hA=>Ex hA s.heap.objs.size a (bT (mn it)) vs.toArray) st ht (λb hb=>ey hb (ax _)) (λU U e=>az _ e) (EZ (b:=a) (isSome_of e1))
   (λi h uS b hb=>ey (p:=λb=>(h.get? b).isSome) hb (nt uS.1)) (λi v A s Q E uS hq=>uS.1.elim λo q=>BO q.1 q.2.1 (rfl) hq) (by rw[aR,r.length,af]) (λj v x=>Ij r) ⟨⟨_,bC _ rfl,rfl,rfl⟩,it.push _⟩))) aC)
noncomputable def signsOf(v:V):M (List V):=v.onStr (λl=>M.ret (l.map λch=>.d (.str [ch]))) M.no
noncomputable def PC(e:ME):MI:=λC ρ=>(e C ρ).bind signsOf
theorem fW.signs{iter:Expr}{p:Pos}(h:aD fi iter m):fW fi iter (.Name x p) (PC m):=λz τ ρ U U Q E st g=>h z st (g.seq λy σ g v s n=>n.one λκ st rv ht=>rv.mc (G:=z.g s Q E gT) g (λl t g=>by
 have fin:∀ty (W:∀A:dX,A.handled=none->rE z.c.W.prog z.c.W.w A s.heap.objs.size [s.heap.objs.size] [s.heap.objs.size] (S l).cps.size (SignAt (S l)) (λi h=>h.IsStrIter s.heap.objs.size ty (S l) t i)),Q (.ref s.heap.objs.size) {s with heap:=s.heap.push {cls:=.type ty,data:=.fields #[.str (S l) t,.int 0 0]}}:=λty W=>
  g _ κ [s.heap.objs.size] _ (Loop.ofWalks W st ht (λb hb=>ey hb (ax _)) (λU U e=>az _ e) (λb hb=>.inl hb) (λi h uS b hb=>ey (p:=λb=>(h.get? b).isSome) hb (nt uS)) (λi v A s Q E uS hq=>aG hq) (aR.trans (af _).symm) (λj v x hv hx=>by
   obtain ⟨ch,u,hc,rfl⟩:=hv;obtain ⟨ch',hc',rfl⟩:=rJ hx;obtain rfl:=aF (((bV ..).symm.trans hc).symm.trans hc');exact ⟨u,rfl⟩) ⟨_,bC _ rfl,rfl,rfl⟩)
 cases ha:(S l).cps.all (·<128)
 ·exact wpAny_pyIter_wide ha (fin _ λA hA=>rE.strWide hA _ _ t)
 ·exact wpAny_pyIter_ascii ha (fin _ λA hA=>rE.strAscii hA _ _ t)) aC)
noncomputable def qA(ls:List V):M (List V):=kB ls (λx=>x.fu (λb=>if -1000000<b/\b<1000000 then M.ret ((d3 b.toNat).map λ(k:Nat)=>.d (.int k)) else M.no) M.no)<|
 K8 ls (λx y w=>x.fu (λa=>y.fu (λb=>w.fu (λc=>if c= -1/\ -1000000<a/\a<1000000/\b= -1 then M.ret ((d3 (a+1).toNat).map λ(k:Nat)=>.d (.int (a - k))) else M.no) M.no) M.no) M.no) M.no
noncomputable def Ik(m:MAs):MI:=λC ρ=>(m C ρ).bind qA
section
variable{z:Z fi}
theorem wC(st:St z.c κ ρ σ s)(ht:τ.p κ){p:Pos}{a b k:Int}{N:Nat}(hr:IsRange s.heap r a b k t u v)(hs:kM a b k=true)(hN:i7 a b k=(N:Int))(hl:N=xs.length)(hx:∀(j:Nat) x,xs[j]? =some x->x=V.d (.int (a+j*k)))
  (hQ:KLp z.c (.Name x p) τ ρ Q xs σ):aO z.M z.A (gT (.ref r)) Q E s:=by
 refine wpAny_pyIter_range hr hs ?_;rw[hN];have hI:IsRangeIter (s.heap.push {cls:=.type "range_iterator",data:=.fields #[jY a,jY (N:Int),jY k]}) s.heap.objs.size (a+(0:Nat)*k) ((N:Int) - (0:Nat)) k:=by
  rw[show a+((0:Nat):Int)*k=a by rw[Int.natCast_zero,Int.zero_mul,A5],show (N:Int) - ((0:Nat):Int)=N from oR _]
  exact bC _ rfl
 exact hQ _ κ [s.heap.objs.size] _ (Loop.ofWalks (tk:=s.toks) (λA hA=>rE.range hA s.heap.objs.size a k N) st ht (λb hb=>ey (p:=(s.heap.objs.size<=·)) hb (ax _)) (λU U e=>az _ e) (λb hb=>.inl hb) (λi h uS b hb=>ey (p:=λb=>(h.get? b).isSome) hb (isSome_of uS)) (λi v A s Q E uS hq=>aG hq) hl (λj v x hv h=>by
  obtain ⟨t,rfl⟩:=hv;rw[hx j x h];exact ⟨t,rfl⟩) hI)
theorem Il{α:Type}{f:Nat->α}{x:α}(h:((d3 n).map f)[j]? =some x):x=f j:=by
 obtain ⟨i,hi,rfl⟩:=rJ h;have hj:=(aL.mp hi).1;rw[jo] at hj
 cases (List.getElem?_range hj).symm.trans hi;rfl
end
theorem YK:i7 0 b 1=((b.toNat:Nat):Int):=by
 rw[rangeSize_one,oR];cases b with
 |ofNat n=>cases n with
  |zero=>rfl
  |succ n=>exact if_pos (aP.mpr (bU _))
 |negSucc n=>rfl
theorem SQ:i7 a (-1) (-1)=(((a+1).toNat:Nat):Int):=by
 cases a with
 |ofNat n=>
  have h:(n:Int)> -1:=bL (by decide) (bw n)
  show (if (n:Int)> -1 then ((n:Int) - -1 - 1)/1+1 else 0)=_
  rw[if_pos h,A2,Int.sub_neg,dy];rfl
 |negSucc n=>cases n<;>rfl
theorem SR(h: -1000000<=i)(h':i<=1000000):v5 i=true:=aj.mpr ⟨decide_eq_true (aX (by decide) h),decide_eq_true (lO h' (by decide))⟩
theorem PE(h1: -1000000<a)(h2:a<1000000):kM a (-1) (-1)=true:=by
 unfold kM;rw[SQ,SR (c9 h1) (c9 h2),SR (aX (by decide) (bw _)) (c_.mpr (Int.toNat_le.mpr h2))]
 exact Bool.or_true _
theorem fW.range{fi:FI}{x:Str}{p q pos:Pos}{es:List Expr}{m:MAs}(h:c5 fi es m)(hx:fi.scope.names.lookup (ah "range")=some .globalImplicit)(hp:d0 es=true):fW fi (.Call (.Name (ah "range") p) es [] pos) (.Name x q) (Ik m):=λz τ ρ U U Q E st g=>
 i_ rfl (z.bare st hx (by decide+kernel) (v:=.type "range") (rfl) (by decide+kernel) (by decide+kernel) (BB z nofun h hp st (g.seq λls σ g vs s n=>by
  refine n.kB (G:=z.gl s (λx s=>aO z.M z.A (gT x) Q E s) E λvs=>call (.type "range") vs) g (λv w n g=>n.one λκ st rv ht=>rv.n8 (G:=z.g s (λx s=>aO z.M z.A (gT x) Q E s) E λv=>call (.type "range") [v]) g (λb t g=>?_) aC) λg=>
   n.K8 g (λv w u x y t n g=>n.three λκ st rv SS ru ht=>rv.n8 (G:=z.g s (λx s=>aO z.M z.A (gT x) Q E s) E λv=>call (.type "range") [v,w,u]) g (λa t1 g=>
    SS.n8 (G:=z.g s (λx s=>aO z.M z.A (gT x) Q E s) E λw=>call (.type "range") [.int a t1,w,u]) g (λb t2 g=>ru.n8 (G:=z.g s (λx s=>aO z.M z.A (gT x) Q E s) E λu=>call (.type "range") [.int a t1,.int b t2,u]) g (λc t3 g=>?_) aC) aC) aC) aC
  ·have hb:=g.ite.1;exact call_range_1 (wC (st.grow z.ok (tk:=s.toks+1+1) λU U e=>az _ e) ht (C2 ..) (small_one (by decide) (by decide) (aX (by decide) (c9 hb.1)) (bL hb.2 (by decide))) YK (by rw[af,jo]) (λj x e=>by rw[Il e,u6,oJ]) g.ite.2)
  ·obtain ⟨⟨rfl,h1,h2,rfl⟩,gf⟩:=g.ite;refine call_range_3 (by decide) ?_ (Or.inl (oI (by decide)))
   exact wC (st.grow z.ok λU U e=>az _ e) ht (C2 ..) (PE h1 h2) SQ (by rw[af,jo]) (λj x e=>by rw[Il e,Int.mul_neg,u6,Int.sub_eq_add_neg]) gf)))
noncomputable def Im(ls:List V):M (List V):=kB ls (λx=>x.onStr (λl=>M.ret ((l.zipIdx 0).map λq=>.d (.tup [.int (q.2:Nat),.str [q.1]]))) M.no) M.no
noncomputable def Nr(m:MAs):MI:=λC ρ=>(m C ρ).bind Im
noncomputable def Nu(ls:List V):M (List V):=oh ls (λx y=>x.c7 (λa=>y.c7 (λb=>M.ret ((a.zip b).map λq=>.d (.tup [q.1,q.2]))) M.no) M.no) M.no
noncomputable def SU(m:MAs):MI:=λC ρ=>(m C ρ).bind Nu
theorem fW.YL(h:c5 fi es m)(hx:fi.scope.names.lookup (ah "enumerate")=some .globalImplicit)(hp:d0 es=true):fW fi (.Call (.Name (ah "enumerate") p) es [] pos) (.Tuple Ig k q) (Nr m):=λz τ ρ U U Q E st g=>
 i_ rfl (z.bare st hx (by decide+kernel) (v:=.type "enumerate") (rfl) (by decide+kernel) (by decide+kernel) (BB z nofun h hp st (g.seq λls σ g vs s n=>by
  refine n.kB (G:=z.gl s (λx s=>aO z.M z.A (gT x) Q E s) E λvs=>call (.type "enumerate") vs) g (λv w n g=>n.one λκ st rv ht=>rv.mc (G:=z.g s (λx s=>aO z.M z.A (gT x) Q E s) E λv=>call (.type "enumerate") [v]) g (λl t g=>?_) aC) aC
  refine call_enumerate_str λh' hE hI hs hk=>wpAny_pyIter_enum hE ?_
  have hD:∀A:dX,A.handled=none->Draws z.c.W.prog z.c.W.w A.in1 s.heap.objs.size [s.heap.objs.size] (S l).cps.size (λi v=>∃ch u,(S l).cps[i]? =some ch/\v= .str ⟨#[ch]⟩ u) (λi h=>h.IsStrIter s.heap.objs.size (strIterType (S l)) (S l) t i):=λA hA=>by
   unfold strIterType
   split
   ·exact Draws.strAscii (A:=A.in1) hA _ _ t
   ·exact Draws.strWide (A:=A.in1) hA _ _ t
  have two:∀{p:Addr->Prop} {b:Addr},b∈[s.heap.objs.size+1,s.heap.objs.size]->p (s.heap.objs.size+1)->p s.heap.objs.size->p b:=λhb h1 h2=>by
   rcases aN.mp hb with rfl|hb
   ·exact h1
   ·cases aA.mp hb;exact h2
  refine g _ κ [s.heap.objs.size+1,s.heap.objs.size] _ (Loop.sU (λA hA=>EB.enumerateD (hD A hA) (s.heap.objs.size+1) (jU _) (λq=>jU _ (aA.mp q)) (.head _)) (λb hb=>hb) st ht (λb hb=>two hb (bX _) (ax _)) hk (λb hb=>.inl hb)
   (λi h uS b hb=>uS.1.elim λold e=>two (p:=λb=>(h.get? b).isSome) hb (isSome_of e) (nt uS.2)) ?_ (λj vals x hv hx=>?_) ⟨⟨_,hE⟩,hI⟩)
  ·simp only [af,List.length_zipIdx];rfl
  ·obtain ⟨u,w,⟨ch,u',hc,rfl⟩,rfl⟩:=hv;obtain ⟨d,hd,rfl⟩:=rJ hx;simp only [List.getElem?_zipIdx,(bV ..).symm.trans hc] at hd;obtain rfl:=aF hd;exact ⟨_,rfl,.mk rfl ⟨_,by rw[bA]⟩ (.mk rfl ⟨_,rfl⟩ rfl)⟩)))
theorem Gs(z x y:Nat)(hx:x<z)(hy:y<z):ZipApart (z+4) (z+2) (z+3) z (z+1) x y:=
 have ne:∀{a b:Nat},(a==b)=false->z+a≠z+b:=λe h=>by rw[Nat.add_left_cancel h,beq_self_eq_true] at e;cases e
 have lt:∀{x a:Nat},x<z->x≠z+a:=λh=>bT (bk h (ak _ _))
 ⟨ne rfl,ne rfl,ne (b:=4) (a:=0) rfl,ne rfl,ne rfl,ne (b:=0) rfl,ne rfl,ne (b:=0) rfl,ne rfl,ne (a:=0) rfl,lt hx,lt hx,lt (a:=0) hx,lt hx,lt hy,lt hy,lt (a:=0) hy,lt hy⟩
theorem fW.zip(h:c5 fi es m)(hx:fi.scope.names.lookup (ah "zip")=some .globalImplicit)(hp:d0 es=true):fW fi (.Call (.Name (ah "zip") p) es [] pos) (.Tuple Ig k q) (SU m):=λz τ ρ U U Q E st g=>
 i_ rfl (z.bare st hx (by decide+kernel) (v:=.type "zip") (rfl) (by decide+kernel) (rfl) (BB z nofun h hp st (g.seq λls σ g vs s n=>by
  refine n.oh (G:=z.gl s (λx s=>aO z.M z.A (gT x) Q E s) E λvs=>call (.type "zip") vs) g (λv w x y n g=>n.two λκ st rv SS ht=>rv.hZ g (λa rv g=>SS.hZ g (λb SS g=>dB.elim (G:=z.g s (λx s=>aO z.M z.A (gT x) Q E s) E λv=>call (.type "zip") [v,w]) rv λx o1 xs n1 e1 e2 e3 U ra=>
   dB.elim (G:=z.g s (λx s=>aO z.M z.A (gT x) Q E s) E λw=>call (.type "zip") [.ref x,w]) SS λy o2 ys n2 f1 f2 f3 U rb=>?_) aC) aC) aC
  have YM:s.heap.IsList x xs.toArray:=⟨_,st.know _ _ e1,e2,_,e3⟩;have YN:s.heap.IsList y ys.toArray:=⟨_,st.know _ _ f1,f2,_,f3⟩
  refine call_zip_2 YM YN λh' hz YO YP h1 h2 hs hk=>wpAny_pyIter_zip hz ?_
  generalize hN:s.heap.objs.size=N at*
  have SV:∀{p:Addr->Prop} {b:Addr},b∈[N+4,N+2,N+3,N,N+1]->p (N+4)->p (N+2)->p (N+3)->p N->p (N+1)->p b:=λhb a1 a2 a3 a4 a5=>by
   rcases aN.mp hb with rfl|hb
   ·exact a1
   rcases aN.mp hb with rfl|hb
   ·exact a2
   rcases aN.mp hb with rfl|hb
   ·exact a3
   rcases aN.mp hb with rfl|hb
   ·exact a4
   cases aA.mp hb;exact a5
  refine g _ κ [N+4,N+2,N+3,N,N+1] _ (Loop.sU (λA hA=>EB.zip2 hA (N+4) (N+2) (N+3) N (N+1) x y (Gs N x y (hN▸mn YM) (hN▸mn YN)) xs.toArray ys.toArray) (λb hb=>?_) st ht (λb hb=>hN▸SV hb (ak _ _) (ak _ _) (ak _ _) (ax _) (ak _ _)) hk (λb hb=>?_)
   (λi h uS b hb=>?_) ?_ (λj vals v hv hx=>?_) ⟨hz,YO,⟨_,_,YP⟩,h1,h2,YM.at λo e=>hk _ o e,YN.at λo e=>hk _ o e⟩)
  ·rcases aN.mp hb with rfl|hb
   ·exact .head _
   ·exact .tail _ (.tail _ hb)
  ·refine (bf.mp (hb)).imp id λq=>?_
   rcases aN.mp q with rfl|q
   ·exact isSome_of e1
   ·cases aA.mp q;exact isSome_of f1
  ·obtain ⟨hz,YO,⟨U,U,YP⟩,h1,h2, -⟩:=uS;exact SV (p:=λb=>(h.get? b).isSome) hb (isSome_of hz) (isSome_of YO) (isSome_of YP) (nt h1) (nt h2)
  ·simp only [aR,aR,ra.length,rb.length,af,List.length_zip]
  ·obtain ⟨v1,v2,hv1,hv2,rfl⟩:=hv;obtain ⟨d1,hd1,hr1⟩:=ra.all.at ((bV ..).symm.trans hv1);obtain ⟨d2,hd2,hr2⟩:=rb.all.at ((bV ..).symm.trans hv2);obtain ⟨⟨u1,u2⟩,hu,rfl⟩:=rJ hx;refine (ed.mp hu).elim λhu1 hu2=>?_
   obtain rfl:=aF (hd1.symm.trans hu1);obtain rfl:=aF (hd2.symm.trans hu2);exact ⟨_,rfl,.mk rfl hr1 (.mk rfl hr2 rfl)⟩)))
noncomputable def Lo(l:List (Tx×V))(k:Tx)(x:V):List (Tx×V):=if l.any (λp=>p.1=k) then l.map (λp=>if p.1=k then (p.1,x) else p) else l++[(k,x)]
structure Pr(κ:View)(kv:Str×Value)(p:Tx×V):Prop where
 k:kv.1=S p.1
 v:RV κ kv.2 p.2
noncomputable abbrev yr(κ:View):List (Str×Value)->List (Tx×V)->Prop:=dp (Pr κ)
section
variable{prog:lr}{w:va}{κ:View}{l:List (Tx×V)}
theorem Bl.pairs:∀{es:List bh},Bl κ es l->∃kvs,Pairs (strKind prog w) es kvs/\yr κ kvs l:=by
 induction l with
 |nil=>exact λh=>⟨[],by rw[show _=[] from h];exact .nil,rfl⟩
 |cons p l ih=>
  exact λ{es} h=>kJ.elim (G:=λes=>∃kvs,Pairs (strKind prog w) es kvs/\yr κ kvs (p::l)) h λe t q r=>by
   refine (ih r).elim λkvs z0=>z0.elim λh1 h2=>?_
   exact q.el λa b c=>⟨(S p.1,e.val)::kvs,.cons (by rw[b];exact gO prog w _ _) rfl h1,.mk rfl ⟨rfl,c⟩ h2⟩
theorem yr.nodup:∀{kvs:List (Str×Value)},yr κ kvs l->(l.map (·.1)).Nodup->(kvs.map (·.1)).Nodup:=by
 induction l with
 |nil=>exact λh U=>by rw[show _=[] from h];exact d4
 |cons p l ih=>
  exact λ{kvs} h nd=>kJ.elim (G:=λkvs=>(kvs.map (·.1)).Nodup) h λkv t q r=>by
   have nd:=bQ.mp nd;refine bQ.mpr ⟨λhm=>nd.1 ?_,ih r nd.2⟩
   exact (br.mp hm).elim λy z0=>z0.elim λhy e=>(gn.mp hy).elim λi hi=>(r.at hi).elim λb z0=>z0.elim λhb pr=>br.mpr ⟨b,bM hb,EC (pr.k.symm.trans (e.trans q.k))⟩
theorem Pr.dec{kv:Str×Value}{p:Tx×V}(q:Pr κ kv p)(k:Tx):kv.1=S k↔p.1=k:=⟨λe=>EC (q.k.symm.trans e),λe=>q.k.trans (congrArg S e)⟩
theorem yr.any(k:Tx):∀{kvs:List (Str×Value)},yr κ kvs l->kvs.any (λkv=>kv.1=S k)=l.any (λp=>p.1=k):=by
 induction l with
 |nil=>exact λh=>by rw[show _=[] from h];rfl
 |cons p l ih=>exact λh=>kJ.elim (G:=λkvs=>kvs.any _=_) h λkv t q r=>congr (congrArg or (decide_eq_decide.mpr (q.dec k))) (ih r)
theorem yr.over{k:Tx}{v:Value}{x:V}(rv:RV κ v x):∀{kvs:List (Str×Value)},yr κ kvs l->yr κ (kvs.map (λkv=>if kv.1=S k then (kv.1,v) else kv)) (l.map (λp=>if p.1=k then (p.1,x) else p)):=by
 induction l with
 |nil=>exact λh=>by rw[show _=[] from h];rfl
 |cons p l ih=>
  exact λh=>kJ.elim (G:=λkvs=>yr κ (kvs.map _) _) h λkv t q r=>.mk rfl (by
   show Pr κ (if kv.1=S k then (kv.1,v) else kv) (if p.1=k then (p.1,x) else p)
   by_cases h:p.1=k
   ·rw[if_pos ((q.dec k).mpr h),if_pos h];exact ⟨q.k,rv⟩
   ·rw[if_neg λe=>h ((q.dec k).mp e),if_neg h];exact q) (ih r)
theorem yr.stored{k:Tx}{v:Value}{x:V}(rv:RV κ v x){kvs:List (Str×Value)}(r:yr κ kvs l):yr κ (A6 kvs (S k) v) (Lo l k x):=by
 unfold A6 Lo;rw[r.any k]
 split
 ·exact r.over rv
 ·exact r.append (.mk rfl ⟨rfl,rv⟩ rfl)
theorem yr.back(hP:κ.P=w.params):∀{kvs:List (Str×Value)} {es:List bh},yr κ kvs l->Pairs (strKind prog w) es kvs->(∀e∈es,∃k,(strKind prog w).is k e.key=true/\e.hash=(strKind prog w).hash k)->Bl κ es l:=by
 induction l with
 |nil=>exact λh hp U=>by rw[show _=[] from h] at hp;cases hp;rfl
 |cons p l ih=>
  refine λ{kvs es} h=>kJ.elim (G:=λkvs=>Pairs (strKind prog w) es kvs->(∀e∈es,∃k,(strKind prog w).is k e.key=true/\e.hash=(strKind prog w).hash k)->Bl κ es (p::l)) h λkv t q r hp hk=>?_
  cases hp with|@cons e U es J h1 h2 h3=>
  refine (hk e (.head _)).elim λk' z0=>z0.elim λq1 q2=>?_
  rw[q.k] at h1;refine (Value.isStrOf_shape (h1)).elim λt ht=>.mk rfl (.mk ?_ ht (h2▸q.v)) (ih r h3 λe he=>hk e (.tail _ he))
  simp only [q2,(strKind prog w).inj _ _ _ q1 h1,hP];rfl
end
noncomputable def PF(i:Nat)(k:Tx)(x:V):Env->Store->RS:=λρ σ=>O.mG σ[i]? (λl=>if (l.map (·.1)).Nodup/\l.length<lim then .ok .next ρ (σ.set i (.dict (Lo l k x))) else .stuck) .stuck
noncomputable def toKey(o k x:V):Env->Store->RS:=o.jA (λi=>k.onStr (λk=>PF i k x) λU U=>.stuck) λU U=>.stuck
noncomputable def Lp(m o k:ME):MS:=λC ρ σ=>RS.nk (m C ρ σ) ρ λx σ=>RS.nk (o C ρ σ) ρ λov σ=>RS.nk (k C ρ σ) ρ λkv σ=>toKey ov kv x ρ σ
theorem Lq{o:Obj}{es:Array bh}{n:Nat}(h:o.ExactDict)(hd:o.data= .dict es n):o=dh es.toList n:=by
 obtain ⟨a1,a2,a3,a4⟩:=o;obtain ⟨g1,g2,g3⟩:=h;cases (g1:a1=_);cases g2;cases g3;cases hd;rfl
theorem ue{prog:lr}{w:va}{κ:View}{h:Heap}{a:Addr}{kvs:List (Str×Value)}{l:List (Tx×V)}(hP:κ.P=w.params)(hd:h.DictOf (strKind prog w) a kvs)(rp:yr κ kvs l):∃es n,h.get? a=some (dh es n)/\Bl κ es l:=by
 refine hd.elim λo z0=>z0.elim λes z1=>z1.elim λn z2=>z2.elim λg1 z3=>z3.elim λg2 z4=>z4.elim λg5 z5=>z5.elim λg6 z6=>z6.elim λg7 g8=>?_
 rw[Lq g2 g5] at g1;exact ⟨_,n,g1,rp.back hP g7 λe he=>g6 e (Array.mem_toList_iff.mp he)⟩
theorem PG{fi:FI}{z:Z fi}{τ:cO}{ρ:Env}{σ:Store}{s:aI}{Q:Pq Unit}{E:Pq Value}{ov kv v:Value}{o k x:V}(n:dY z.c (((τ.v v x).v ov o).v kv k) ρ σ s){K:KSt}{X:Int->Env->Prop}(g:fR (toKey o k x ρ σ) K X)(h:∀σ',K .next ρ σ'->∀s,dY z.c τ ρ σ' s->Q () s):aO z.M z.A (setItem ov kv v) Q E s:=n.three λκ st rv ro rk ht=>by
 cases o with
 |obj i=>cases k with
  |d y=>cases y with
   |str k=>
    have g:fR (O.mG σ[i]? (λl=>if (l.map (·.1)).Nodup/\l.length<lim then .ok .next ρ (σ.set i (.dict (Lo l k x))) else .stuck) .stuck) K X:=g
    cases e:σ[i]? with
    |none=>rw [e] at g;exact g.elim
    |some w=>cases w with
     |dict l=>
      rw[e] at g;refine (fR.ite g).elim λhk g=>rk.elim λt Io=>?_;subst Io
      refine st.Nd (G:=z.g s Q E λo=>setItem o (.str (S k) t) v) e ro λa es m hi h1 rf=>(rf.pairs (prog:=z.c.W.prog) (w:=z.c.W.w)).elim λkvs z0=>z0.elim λhp rp=>?_
      have rf':dp (En S (zI κ.P) (RV κ)) es l:=rf;rw[st.P.P] at rf'
      refine wpAny_setItem_pairs (gO _ _ _ t) ⟨_,es.toArray,m,h1,⟨rfl,rfl,rfl⟩,rfl,λe he=>En.keys rf' e (nN.mp he),hp,rp.nodup hk.1⟩ (λh' hd hs=>?_) (by rw[rp.length];exact fj (cf hk.2))
      exact (ue st.P.P hd (rp.stored rv)).elim λRN z0=>z0.elim λep z1=>z1.elim λg1 rk=>h _ g _ (.mk (st.zV z.ok hi e rfl (λb x hb e=>(hs.2 b λq=>hb (aA.mpr q)).trans e) (λb hb=>by cases aA.mp hb;exact isSome_of g1) (.mk rfl g1 rk)) ht)
     |_=>rw [e] at g;exact g.elim
   |_=>exact aC g
  |_=>exact aC g
 |_=>exact aC g
theorem cb.PH{fi:FI}{o i value:Expr}{pos' pos:Pos}{mo mi m:ME}(hm:aD fi value m)(ho:aD fi o mo)(hi:aD fi i mi)(hs:∀env:aV,fU value (some (.Subscript o i pos')) pos.line env=pure false):cb fi (.Assign [.Subscript o i pos'] value pos) (Lp m mo mi):=λz U U U U U U st g=>
 wpAny_Assign_Subscript (hm z st (fR.nk g λU U g U U st=>ho z st (fR.nk g λU U g U U st=>hi z st (fR.nk g λU U g U U st=>PG st g λU g U st=>g _ st)))) (hs _)
noncomputable def sV(env:aV)(n:Str):Addr:=(env.cells.lookup n).getD 0
noncomputable def yX(env:aV)(names:List (Str×bZ))(acc:List (Str×Addr)):List (Str×Addr):=match names with
 |[]=>acc
 |p::r=>yX env r (bif p.2==cF then (p.1,sV env p.1)::acc else acc)
theorem yY{α:Type}{l:List (Str×α)}{x y:Str}{a b:α}(h:((y,a)::l).lookup x=some b):(x=y/\b=a)\/l.lookup x=some b:=by
 rw[cz] at h;cases e:x==y<;>rw [e] at h
 ·exact .inr h
 ·exact .inl ⟨eq_of_beq e,(aF h).symm⟩
theorem lz{α:Type}{l:List (Str×α)}{x:Str}{a:α}:((x,a)::l).lookup x=some a:=by rw[cz,beq_self_eq_true]
theorem e9{α:Type}{x:Str}{k:α}{l:List (Str×α)}:l.lookup x=some k->(x,k)∈l:=by
 induction l with
 |nil=>exact nofun
 |cons p l ih=>exact λh=>(yY h).elim (λe=>by rw[e.1,e.2];exact .head _) λh=>.tail _ (ih h)
theorem Ip{env:aV}{G:Str->Addr->Prop}{names:List (Str×bZ)}:∀{acc:List (Str×Addr)},(∀p∈names,p.2= .free->G p.1 (sV env p.1))->(∀x a,acc.lookup x=some a->G x a)->∀x a,(yX env names acc).lookup x=some a->G x a:=by
 induction names with
 |nil=>exact λU h=>h
 |cons p r ih=>
  intro acc hn h;refine ih (λq hq=>hn q (.tail _ hq)) λx a=>?_
  cases e:p.2==cF
  ·exact h x a
  ·exact λq=>(yY q).elim (λq=>by rw[q.1,q.2];exact hn p (.head _) (eq_of_beq e)) (h x a)
theorem Gu{env:aV}{x:Str}{names:List (Str×bZ)}:∀{acc:List (Str×Addr)},(x,cF)∈names\/acc.lookup x=some (sV env x)->(yX env names acc).lookup x=some (sV env x):=by
 induction names with
 |nil=>exact λh=>h.elim nofun id
 |cons p r ih=>
  intro acc h;refine ih (h.elim (λh=>?_) λh=>.inr ?_)
  ·rcases aN.mp h with e|h
   ·exact .inr (e▸lz)
   ·exact .inl h
  ·cases e:p.2==cF
   ·exact h
   ·show ((p.1,sV env p.1)::acc).lookup x=_;rw[cz];cases q:x==p.1
    ·exact h
    ·rw[eq_of_beq q]
theorem Du{scope:fV}{env:aV}(h:∀p∈scope.names,p.2= .free->∃a,env.cells.lookup p.1=some a):yc scope env=pure (yX env scope.names []):=by
 simp only [yc]
 generalize scope.names=names at h
 generalize ([])=acc
 induction names generalizing acc with
 |nil=>rfl
 |cons p r ih=>
  obtain ⟨n,k⟩:=p;rw[List.forIn_cons];unfold yX;dsimp only;cases hk:k==cF
  ·exact (ih (λq hq=>h q (.tail _ hq))) acc
  ·refine (h (n,k) (.head _) (eq_of_beq hk)).elim λa ha=>?_
   rw[if_pos rfl,(by unfold cellOf sV;rw[ha];rfl:cellOf env n=pure (sV env n))]
   exact (ih (λq hq=>h q (.tail _ hq))) _
noncomputable def wF(outer:List (Str×bZ))(x:Str)(k:bZ):bZ:=bif k== .free&&outer.lookup x==some .cell then .cell else k
noncomputable def Iq(outer names:List (Str×bZ)):List (Str×bZ):=names.map λp=>(p.1,wF outer p.1 p.2)
theorem BP outer x names:(Iq outer names).lookup x=(names.lookup x).map (wF outer x):=by
 induction names with
 |nil=>rfl
 |cons p r ih=>
  show ((p.1,wF outer p.1 p.2)::Iq outer r).lookup x=oK _ ((p.1,p.2)::r|>.lookup x)
  rw[cz,cz];cases q:x==p.1
  ·exact ih
  ·simp only [eq_of_beq q];rfl
theorem wG{c:Cx}(ok:c.Ok){scope:fV}:Ba scope c.env={scope with names:=Iq c.fi.scope.names scope.names}:=by
 unfold Ba Iq
 congr 1
 refine hO λp U=>?_
 show (if (p.2==cF&&c.env.scope.kind== .function&&c.env.scope.names.lookup p.1==some .cell)=true then (p.1,rz) else (p.1,p.2))=_
 rw[ok.scope,ok.kind];unfold wF;obtain ⟨rfl,rfl⟩:=(p.2==cF)
 ·rfl
 ·cases c.fi.scope.names.lookup p.1==some .cell<;>rfl
noncomputable def oo(fi:FI)(scope:fV)(vars:List Str):FI:={scope:={scope with names:=Iq fi.scope.names scope.names},vars:=vars,comp:=true}
noncomputable abbrev SW(fi:FI)(scope:fV)(vars:List Str)(cap:List (Option Nat))(p:Str×bZ):Prop:=p.2≠ .cell/\(p.2= .local->scope.names.lookup p.1=some .local)/\
 (p.2= .free->scope.names.lookup p.1=some .free/\fi.scope.names.lookup p.1=some .cell/\((cap.zip vars).any λq=>q.2=p.1&&q.1.isSome)=true)
noncomputable abbrev SX(fi:FI)(scope:fV)(q:Option Nat×Str):Prop:=(q.1.all λi=>fi.vars[i]? =some q.2/\scope.names.lookup q.2=some .free)=true
structure gm(fi:FI)(scope:fV) vars cap:Prop where
 kind:scope.kind= .function
 comp:fi.comp=false
 names:∀p∈scope.names,SW fi scope vars cap p
 YQ:∀q∈cap.zip vars,SX fi scope q
 nd:vars.Nodup
 len:cap.length=vars.length
noncomputable def E0(fi:FI)(scope:fV)(vars:List Str)(cap:List (Option Nat)):Bool:=
 decide (scope.kind= .function/\fi.comp=false/\(∀p∈scope.names,SW fi scope vars cap p)/\(∀q∈cap.zip vars,SX fi scope q)/\vars.Nodup/\cap.length=vars.length)
theorem yZ{fi:FI}{scope:fV}{vars:List Str}{cap:List (Option Nat)}(h:E0 fi scope vars cap=true):gm fi scope vars cap:=
 have h:=of_decide_eq_true h
 ⟨h.1,h.2.1,h.2.2.1,h.2.2.2.1,h.2.2.2.2.1,h.2.2.2.2.2⟩
section
variable{fi:FI}{scope:fV}{vars:List Str}{cap:List (Option Nat)}
theorem gm.Ad(K:gm fi scope vars cap){j i:Nat}{x:Str}(h:cap[j]? =some (some i))(hx:vars[j]? =some x):fi.vars[i]? =some x/\scope.names.lookup x=some .free:=
 of_decide_eq_true (K.YQ (some i,x) (bM (ed.mpr ⟨h,hx⟩)))
theorem gm.Lr(K:gm fi scope vars cap){x:Str}(h:(x,cF)∈scope.names):∃(i j:Nat),vars[j]? =some x/\cap[j]? =some (some i):=by
 refine cps λP9 k9=>?_
 obtain ⟨q,hq,e⟩:=jT.mp ((K.names _ h).2.2 rfl).2.2;exact (gn.mp hq).elim λj hj=>(fH.mp (aj.mp e).2).elim λi hi=>k9 ⟨i,j,(ed.mp hj).2.trans (congrArg some (of_decide_eq_true (aj.mp e).1)),(ed.mp hj).1.trans (congrArg some hi)⟩
end
noncomputable def Gv(c:Cx)(scope:fV)(a:Addr):Prop:=∃x,(x,cF)∈scope.names/\c.env.cells.lookup x=some a
structure SY(c:Cx) scope a:Prop where
 own:a∈c.own
 off:a≠c.env.locals
 cap:¬Gv c scope a
noncomputable def y0(c:Cx)(scope:fV):List (Str×Addr):=yX c.env scope.names []
open Classical in
noncomputable def jg(c:Cx)(scope:fV)(vars:List Str)(h:Heap)(C:Addr)(dat:Data):Cx where
 W:=c.W
 fi:=oo c.fi scope vars
 F:=λa=>if SY c scope a then h.get? a else c.F a
 outs:=(c.env,dat)::c.outs
 env:=compEnvC scope (y0 c scope) C c.env
 own:=C::c.own.filter (Gv c scope)
 hid:=c.own.filter (λa=>¬Gv c scope a)++c.hid
 low:=c.low
noncomputable def Ho(cap:List (Option Nat))(ρ:Env):Env:=cap.map λo=>o.bind λi=>(ρ[i]?).join
section
variable{c:Cx}{scope:fV}{vars:List Str}{cap:List (Option Nat)}{κ κ':View}{ρ ρ':Env}{σ σ':Store}{s s':aI}{h':Heap}{C a:Addr}{dat:Data}{x:Str}{P:Prop}
theorem uf(ok:c.Ok) x:(jg c scope vars h' C dat).env.kindOf x=(scope.names.lookup x).map (wF c.fi.scope.names x):=by
 show (Ba scope c.env).names.lookup x=_;rw[wG ok];exact BP _ _ _
open Classical in
theorem nv(h:a∈(jg c scope vars h' C dat).own)(h1:a=C->P)(h2:a∈c.own->Gv c scope a->P):P:=
 (aN.mp h).elim h1 λh=>h2 (d_.mp h).1 (of_decide_eq_true (d_.mp h).2)
open Classical in
theorem Ae(h:a∈c.own)(hc:Gv c scope a):a∈(jg c scope vars h' C dat).own:=.tail _ (d_.mpr ⟨h,decide_eq_true hc⟩)
open Classical in
theorem pP(h:a∈(jg c scope vars h' C dat).hid)(h1:a∈c.own->¬Gv c scope a->P)(h2:a∈c.hid->P):P:=
 (bf.mp h).elim (λh=>h1 (d_.mp h).1 (of_decide_eq_true (d_.mp h).2)) h2
open Classical in
theorem E1(h:a∈c.own)(hc:¬Gv c scope a):a∈(jg c scope vars h' C dat).hid:=bj _ (d_.mpr ⟨h,decide_eq_true hc⟩)
theorem jh(h:¬SY c scope a):(jg c scope vars h' C dat).F a=c.F a:=if_neg h
theorem BQ(h:SY c scope a):(jg c scope vars h' C dat).F a=h'.get? a:=if_pos h
theorem Dv(m:fP (jg c scope vars h' C dat) κ a):a=C\/fP c κ a:=by
 rcases m with m|m|m|m|m
 ·by_cases u:SY c scope a
  ·exact .inr (.inr (.inr (.inl u.own)))
  ·rw[jh u] at m;exact .inr (.inl m)
 ·exact .inr (.inr (.inl m))
 ·exact nv m .inl λh U=>.inr (.inr (.inr (.inl h)))
 ·exact .inr (pP m (λh U=>.inr (.inr (.inl h))) λh=>.inr (.inr (.inr (.inl h))))
 ·exact .inr (.inr (.inr (.inr (.inr m))))
theorem ug(ok:c.Ok)(K:gm c.fi scope vars cap)(h:(x,cF)∈scope.names):c.env.kindOf x=some .cell:=by unfold Ey;rw[ok.scope];exact ((K.names _ h).2.2 rfl).2.1
theorem sX(ok:c.Ok)(K:gm c.fi scope vars cap)(h:(x,cF)∈scope.names):c.env.cells.lookup x=some (sV c.env x):=by
 refine (ok.cellHas x (ug ok K h)).elim λa ha=>?_
 unfold sV;rw[ha];rfl
theorem E2(ok:c.Ok)(K:gm c.fi scope vars cap):yc scope c.env=pure (y0 c scope):=Du λp hp e=>⟨_,sX ok K (e▸hp)⟩
theorem E3(ok:c.Ok)(K:gm c.fi scope vars cap):∀x a,(y0 c scope).lookup x=some a->(x,cF)∈scope.names/\c.env.cells.lookup x=some a:=
 Ip (λp hp e=>have m:(p.1,cF)∈scope.names:=e▸hp;⟨m,sX ok K m⟩) nofun
theorem sY(ok:c.Ok)(K:gm c.fi scope vars cap)(h:(x,cF)∈scope.names)(ha:c.env.cells.lookup x=some a):(y0 c scope).lookup x=some a:=by
 simp only [<-ha,sX ok K h];exact Gu (.inl h)
theorem sZ(ok:c.Ok)(K:gm c.fi scope vars cap)(h:Gv c scope a):a∈c.own/\a≠c.env.locals:=h.elim λx h=>⟨ok.cellOwn x a h.2 (ug ok K h.1),ok.cellOff x a h.2⟩
theorem St.BR(st:St c κ ρ σ s)(hC:s.heap.objs.size<=C){b:Addr}(m:fP c κ b)(e:b=C):P:=old_ne (st.lt m) (e▸hC)
theorem Ls(st:St c κ ρ σ s)(ok:c.Ok)(K:gm c.fi scope vars cap)(hC:s.heap.objs.size<=C)(hd:∀vs,dat≠ .fields vs):(jg c scope vars h' C dat).Ok:=
 have mo:∀{a},a∈c.own->a≠C:=λh=>st.BR hC (.inr (.inr (.inl h)))
 have cc:=E3 ok K
 {
  w:=ok.w,scope:=wG ok,kind:=K.kind,globals:=ok.globals,builtins:=ok.builtins,frame:=nofun,loc:=.head _,vars:=K.nd
  base:=λa o e=>(jh λu=>gr (st.priv a u.own).F (ok.base a o e)).trans (ok.base a o e)
  outs:=λq hq=>by
   refine cps λP9 k9=>?_
   rcases aN.mp hq with rfl|hq
   ·exact k9 ⟨by show c.env.scope.kind≠_;rw[ok.scope,ok.kind];exact nofun,hd,c.env.locals,ok.frame K.comp,E1 ok.loc λq=>(sZ ok K q).2 rfl,(jh λu=>u.off rfl).trans (st.priv _ ok.loc).F,λm=>nv m (mo ok.loc) λU q=>(sZ ok K q).2 rfl⟩
   ·obtain ⟨h1,h2,L,h3,h4,h5,h6⟩:=ok.outs q hq;exact k9 ⟨h1,h2,L,h3,aU _ h4,(jh λu=>h6 u.own).trans h5,λm=>nv m ((λh=>st.BR hC (.inr (.inr (.inr (.inl h))))) h4) λq U=>h6 q⟩
  cellOwn:=λx a h U=>Ae (sZ ok K ⟨x,cc x a h⟩).1 ⟨x,cc x a h⟩
  cellIn:=λx a h=>.inl (Ae (sZ ok K ⟨x,cc x a h⟩).1 ⟨x,cc x a h⟩)
  cellHas:=λx hx=>by
   rw[uf ok] at hx;cases hl:scope.names.lookup x with
   |none=>rw [hl] at hx;cases hx
   |some k=>
    simp only [hl] at hx;cases e:k==cF with
    |true=>cases eq_of_beq e;exact ⟨_,sY ok K (e9 hl) (sX ok K (e9 hl))⟩
    |false=>
     have hx:some (wF c.fi.scope.names x k)=some .cell:=hx;unfold wF at hx
     simp only [e] at hx;exact absurd (aF hx) (K.names _ (e9 hl)).1
  cellOff:=λx a h=>mo (sZ ok K ⟨x,cc x a h⟩).1
  apart:=λa ha hm=>nv ha (λe=>pP hm (λh U=>mo h e) λh=>(λh=>st.BR hC (.inr (.inr (.inr (.inl h))))) h e) λho hc=>pP hm (λU n=>n hc) (ok.apart a ho)
  cellOne:=λx y a hx hy=>ok.cellOne x y a (cc x a hx).2 (cc y a hy).2
  above:=ac (ac ok.above (cf (tY (st.priv _ ok.loc).at_))) hC
  hid:=λa ha=>pP ha (λh U=>jH ok (st.priv a h).F) (ok.hid a)}
theorem E4{j:Nat}{v:V}(h:(Ho cap ρ)[j]? =some (some v)):∃i,cap[j]? =some (some i)/\ρ[i]? =some (some v):=by
 refine cps λP9 k9=>?_
 obtain ⟨o,ho,e⟩:=a_.mp ((de ..).symm.trans h);cases o with
 |none=>cases e
 |some i=>
  refine k9 ⟨i,ho,?_⟩;have e:(ρ[i]?).join=some v:=e;cases hr:ρ[i]? with
  |none=>rw [hr] at e;cases e
  |some q=>rw [hr] at e;exact congrArg some e
theorem PI{j i:Nat}(h:cap[j]? =some (some i)){v:V}(hv:ρ[i]? =some (some v)):(Ho cap ρ)[j]? =some (some v):=by
 refine (de ..).trans ?_;rw[h];show some (ρ[i]?).join=_;rw[hv];rfl
theorem Gw{h h':Heap}{b:Addr}{v:Option Value}(k:∀b o,h.get? b=some o->h'.get? b=some o):h.IsCell b v->h'.IsCell b v:=λ⟨o,e1,e2⟩=>⟨o,k b o e1,e2⟩
theorem St.PJ(st:St c κ ρ σ s)(ok:c.Ok)(K:gm c.fi scope vars cap){tk:Tok}(hC:s.heap.objs.size<=C)(keep:∀b o,s.heap.get? b=some o->h'.get? b=some o)(rK:h'.Ns C (λU=>none))(Gx:∃o,h'.get? c.env.locals=some o/\o.data=dat):
  St (jg c scope vars h' C dat) κ (Ho cap ρ) σ {s with heap:=h',toks:=tk}:=
 have x:=st.grow ok keep
 {
  P:=st.P,rest:=st.rest,know:=x.know,there:=x.there,len:=st.len,store:=x.store,plen:=(af _).trans K.len
  kept:=λa o e=>by
   by_cases hm:SY c scope a
   ·exact (BQ hm).symm.trans e
   ·exact x.kept a o ((jh hm).symm.trans e)
  outer:=λq hq=>by
   rcases aN.mp hq with rfl|hq
   ·exact ⟨λL hL=>by cases aF ((ok.frame K.comp).symm.trans hL);exact Gx⟩
   ·exact x.outer q hq
  hid:=λa ha=>pP ha (λh U=>⟨(x.priv a h).B,λq=>fQ st h q rfl,(x.priv a h).at_⟩) (x.hid a)
  priv:=λa ha=>nv ha (λe=>by rw[e];exact ⟨⟨(jh λu=>st.BR hC (.inr (.inr (.inl u.own))) rfl).trans (st.KO hC),st.F5 hC⟩,sQ rK⟩) λh hc=>⟨⟨(jh λu=>u.cap hc).trans (x.priv a h).F,(x.priv a h).B⟩,(x.priv a h).at_⟩
  cell:=λi as o h1 h2 h3 a ha=>⟨(jh λu=>fQ st u.own (dU h1 ha) rfl).trans (st.cell i as o h1 h2 h3 a ha).F,(st.cell i as o h1 h2 h3 a ha).B⟩
  nodup:=by
   obtain ⟨n1,n2,n3⟩:=bz.mp st.nodup;exact bz.mpr ⟨bQ.mpr ⟨λh=>st.BR hC (.inr (.inr (.inl (d_.mp h).1))) rfl,n1.filter _⟩,n2,λa ha b hb e=>nv (h':=h') ha (λq=>st.BR hC (.inr (.inr (.inr (.inr hb)))) (e.symm.trans q)) λh U=>n3 a h b hb e⟩
  vars:=.mk rK λj y v hx hv=>by
   refine cps λP9 k9=>?_
   obtain ⟨i,hc,hr⟩:=E4 hv;have hm:=e9 (K.Ad hc hx).2;refine st.vars.el λU S0=>?_
   obtain ⟨rv,Bm,r⟩:=S0 i y v (K.Ad hc hx).1 hr;refine k9 ?_;refine ⟨rv,.inr ⟨.inl ?_,?_⟩,r⟩
   ·rw[uf ok,(K.Ad hc hx).2];show some (wF _ y .free)=_;unfold wF;rw[(((K.names _ hm).2.2 rfl).2.1)];rfl
   ·rcases Bm with ⟨e1, -⟩|⟨-,b,hb,EG⟩
    ·exact absurd ((ug ok K hm).symm.trans e1) nofun
    ·exact ⟨b,sY ok K hm hb,Gw keep EG⟩
  cells:=λy a ha=>x.cells y a ((E3 ok K) y a ha).2}
theorem St.PK(st:St c κ ρ σ s)(ok:c.Ok)(K:gm c.fi scope vars cap)(hC:s.heap.objs.size<=C)(keep:∀b o,s.heap.get? b=some o->h'.get? b=some o)(Gx:∃o,h'.get? c.env.locals=some o/\o.data=dat)(l:κ.le κ')
  (st':St (jg c scope vars h' C dat) κ' ρ' σ' s') (YR:∀(j:Nat) (v:V),(Ho cap ρ)[j]? =some (some v)->ρ'[j]? =some (some v)):St c κ' ρ σ' s'/\Off c κ' [C] s'.heap:=by
 have S4:∀a∈c.own,c.F a=none:=λa ha=>(st.priv a ha).F
 have Fk:∀a o,c.F a=some o->(jg c scope vars h' C dat).F a=some o:=λa o e=>(jh λu=>gr (S4 a u.own) e).trans e
 have own:∀a∈c.own,EE κ' s'.heap a:=λa ha=>by
  by_cases h:Gv c scope a
  ·have hm:=Ae (h':=h') (C:=C) (dat:=dat) (vars:=vars) ha h;exact ⟨(st'.priv a hm).B,λq=>fQ st' hm q rfl,(st'.priv a hm).at_⟩
  ·exact st'.hid a (E1 ha h)
 have far:∀y a,c.env.cells.lookup y=some a->¬Gv c scope a->∀v,s.heap.IsCell a v->s'.heap.IsCell a v:=λy a hy hn v ⟨o,ho,r⟩=>⟨o,(ok.cellIn y a hy).elim
  (λhm=>st'.kept a o ((BQ ⟨hm,ok.cellOff y a hy,hn⟩).trans (keep _ _ ho))) λhm=>some_at hm λo' e=>by
   cases (st.kept a o' e).symm.trans ho;exact st'.kept a _ (Fk a _ e),r⟩
 have near:∀y a,c.env.cells.lookup y=some a->Gv c scope a->(y,cF)∈scope.names:=λy a hy ⟨z,h1,h2⟩=>ok.cellOne _ _ _ hy h2▸h1
 refine ⟨{
  P:=st'.P,rest:=st'.rest,know:=st'.know,there:=st'.there,plen:=st.plen,len:=st'.len,store:=st'.store
  kept:=λa o e=>st'.kept a o (Fk a o e)
  outer:=λq hq=>st'.outer q (.tail _ hq)
  hid:=λa ha=>st'.hid a (aU _ ha)
  priv:=λa ha=>⟨⟨S4 a ha,(own a ha).B⟩,(own a ha).at_⟩
  cell:=λi as o h1 h2 h3 a ha=>⟨none_of λo' e=>gr (st'.cell i as o h1 h2 h3 a ha).F (Fk a o' e),(st'.cell i as o h1 h2 h3 a ha).B⟩
  nodup:=bz.mpr ⟨(bz.mp st.nodup).1,(bz.mp st'.nodup).2.1,λa ha b hb e=>(own a ha).ι (e▸hb)⟩
  vars:=?_
  cells:=λy a ha=>by
   by_cases h:Gv c scope a
   ·exact st'.cells y a (sY ok K (near y a ha h) ha)
   ·exact (st.cells y a ha).elim λv hv=>⟨v,far y a ha h v hv⟩},λa ha m=>?_,λa ha=>aA.mp ha▸(st'.priv _ (.head _)).at_⟩
 ·refine st.vars.el λhm S0=>st'.vars.el λU YS=>?_
  refine cps λP9 k9=>?_
  obtain ⟨o,es,ep,ho,hd,r⟩:=hm;obtain ⟨Bq,Ir,Iu⟩:=Gx;obtain rfl:=aF ((keep _ _ ho).symm.trans Ir);obtain ⟨vk,S5,S6⟩:=(st'.outer (c.env,dat) (.head _)).at_ _ (ok.frame K.comp);refine k9 ?_;refine .mk ⟨vk,es,ep,S5,(S6.trans Iu.symm).trans hd,r⟩ λi y v hy hv=>?_
  obtain ⟨rv,Bm,r⟩:=S0 i y v hy hv;rcases Bm with h1|⟨hk,a,ha,hc⟩
  ·exact ⟨rv,.inl h1,RV.mono l _ r⟩
  ·by_cases hcp:Gv c scope a
   ·have hm:=near y a ha hcp;refine cps λP9 k9=>?_
    obtain ⟨i',j,hj,hcj⟩:=K.Lr hm;have hii:i'=i:=by
     exact (aL.mp (K.Ad hcj hj).1).elim λl1 e1=>(aL.mp hy).elim λl2 e2=>(uB ok.vars).mp (e1.trans e2.symm)
    subst hii;obtain ⟨Xv,YT,r'⟩:=YS j y v hj (YR j v (PI hcj hv));refine k9 ?_;rcases YT with ⟨h2, -⟩|⟨-,b,hb,hcb⟩
    ·rw[uf ok,((K.names _ hm).2.2 rfl).1] at h2;have h2:some (wF c.fi.scope.names y .free)=some .local:=h2;unfold wF at h2
     rw[((K.names _ hm).2.2 rfl).2.1] at h2;exact absurd h2 nofun
    ·obtain rfl:=aF ((sY ok K hm ha).symm.trans hb);exact ⟨Xv,.inr ⟨hk,a,ha,hcb⟩,r'⟩
   ·exact ⟨rv,.inr ⟨hk,a,ha,far y a ha hcp _ hc⟩,RV.mono l _ r⟩
 ·obtain rfl:=aA.mp ha;rcases m with m|m|m|m|m
  ·exact gu (st.KO hC) m
  ·exact gu (st'.priv _ (.head _)).B m
  ·exact st.BR hC (.inr (.inr (.inl m))) rfl
  ·exact st.BR hC (.inr (.inr (.inr (.inl m)))) rfl
  ·exact fQ st' (.head _) m rfl
end
noncomputable def Res.YU{α:Type}(r:Res α):Res α:=match r with
 | .stuck=>.stuck
 | .ok a σ=>.ok a σ
 | .exc _=>.stuck
noncomputable def RS.toR{α:Type}(r:RS)(k:Env->Store->Res α):Res α:=match r with
 | .stuck=>.stuck
 | .ok f ρ σ=>Fl.casesOn (motive:=λU=>Res α) f (k ρ σ) .stuck .stuck λU=>.stuck
 | .exc _ _=>.stuck
noncomputable abbrev MC:=nj->Env->Store->Res (Env×List D)
noncomputable def hH(t:MT)(body:MC)(C:nj)(xs:List V):Env->Store->Res (Env×List D):=match xs with
 |[]=>λρ σ=>.ok (ρ,[]) σ
 |x::xs=>λρ σ=>(t x C ρ σ).toR λρ₁ σ₁=>(body C ρ₁ σ₁).bind λq σ₂=>(hH t body C xs q.1 σ₂).bind λr Iv=>.ok (r.1,q.2++r.2) Iv
noncomputable def PM(ρ:Env)(v:V):M (Env×List D):=v.yj (λx=>M.ret (ρ,[x])) M.no
noncomputable def E5(ifs:MB)(elt:ME):MC:=λC ρ σ=>(ifs C ρ σ).bind λb σ₁=>cond b ((elt C ρ σ₁).bind (PM ρ)) (.ok (ρ,[]) σ₁)
noncomputable abbrev NoX:Int->Prop:=λU=>False
theorem Go.any{α:Type}{r:Res α}{K:α->Store->Prop}(h:Go r K NoX):∃a σ,K a σ:=by
 cases r with
 |stuck=>exact h.elim
 |ok a σ=>exact ⟨a,σ,h⟩
 |exc k=>exact h.elim
theorem fR.toR{α:Type}{r:RS}{k:Env->Store->Res α}{K:α->Store->Prop}{c:Cx}{τ:cO}{Q:Pq Unit}{X:Int->Env->Prop}(h:Go (r.toR k) K NoX)(g:∀ρ σ,Go (k ρ σ) K NoX->∀s,dY c τ ρ σ s->Q () s):fR r (Nn c τ Q) X:=by
 cases r with
 |stuck=>exact h
 |ok f ρ σ=>cases f with
  |next=>exact g ρ σ h
  |_=>exact h.elim
 |exc k=>exact h.elim
noncomputable abbrev Nv(ifs:List Expr)(env:aV):Sem Bool:=forIn ifs true λcc r=>if r=true then do let ok<-x5 cc env (eval cc env);pure (vK ok) else pure (vK r)
noncomputable def j8(fi:FI)(ifs:List Expr)(m:MB):Prop:=∀(z:Z fi) {τ:cO} {ρ:Env} {σ:Store} {s:aI} {Q:Pq Bool} {E:Pq Value},dY z.c τ ρ σ s->Go (m z.C ρ σ) (KB z.c τ ρ Q) (KE z.c ρ E)->aO z.M z.A (Nv ifs z.c.env) Q E s
noncomputable def bTrue:MB:=λU U=>M.ret true
theorem j8.nil:j8 fi [] bTrue:=λU U U U U U U n g=>vQ (g _ n)
theorem j8.one(h:cC fi e m):j8 fi [e] m:=λz U U U U U U n g=>wpAny_tests_one (h z n g)
noncomputable def uh(target iter:Expr)(ifs:List Expr)(em:Value->aV->Sem Unit)(e:Expr)(pL:Nat)(it acc:Value)(env:aV):Sem PySem.Fin:=do
   f' iter.pos
   match<-pyNext it with
   |none=>pure (.done .next)
   |some v=>
    iL target it v
    EA target env v
    let mut ok:=true
    for cc in ifs do
     if ok then ok<-x5 cc env (eval cc env)
    if ok then em acc env
    again (.compLoop e pL it acc env)
inductive Acc(c:Cx)(τ:cO)(ρ:Env)(σ:Store)(acc:Addr)(l:List D)(s:aI):Prop
 |mk {κ:View} {ys:Array Value}:St c κ ρ σ s->τ.p κ->Off c κ [acc] s.heap->s.heap.PlainList acc ys->fI κ.B ys.toList l->Acc c τ ρ σ acc l s
theorem Acc.el{b9:Prop}(h9:Acc c τ ρ σ acc l s)(k9:∀{κ:View} {ys:Array Value},St c κ ρ σ s->τ.p κ->Off c κ [acc] s.heap->s.heap.PlainList acc ys->fI κ.B ys.toList l->b9):b9:=Acc.rec k9 h9
noncomputable def KC(c:Cx)(τ:cO)(acc:Addr)(l:List D)(Q:aI->Prop):Env×List D->Store->Prop:=λq σ=>(l++q.2).length<=lim/\∀s,Acc c τ q.1 σ acc (l++q.2) s->Q s
noncomputable def mN(fi:FI)(ifs:List Expr)(em:Value->aV->Sem Unit)(b:MC):Prop:=∀(z:Z fi) {τ:cO} {ρ:Env} {σ:Store} {s:aI} {acc:Addr} {l:List D} {Q:aI->Prop} {E:Pq Value},Acc z.c τ ρ σ acc l s->Go (b z.C ρ σ) (KC z.c τ acc l Q) NoX->
 aO z.M z.A (Nv ifs z.c.env) (λok s=>if ok=true then aO z.M z.A (em (.ref acc) z.c.env) (λU s=>Q s) E s else Q s) E s
noncomputable def BS(elt:Expr)(acc:Value)(env:aV):Sem Unit:=do let _<-call (.builtin "list.append") [acc,<-eval elt env]
theorem rN{h:Heap}{ys:Array Value}(hl:h.PlainList a ys):(h.get? a).isSome:=hl.elim λU e=>isSome_of e
section
variable{h h₀:Heap}
theorem lG(hl:h.PlainList acc ys):∀a∈[acc],(h.get? a).isSome:=λa ha=>ey (p:=λa=>(h.get? a).isSome) ha (rN hl)
theorem Off.one(o:Off c κ (acc::wr) h):Off c κ [acc] h:=⟨λa ha=>o.no a (aA.mp ha▸ .head _),λa ha=>o.at_ a (aA.mp ha▸ .head _)⟩
theorem Off.rest(o:Off c κ (acc::wr) h):Off c κ wr h:=⟨λa ha=>o.no a (.tail _ ha),λa ha=>o.at_ a (.tail _ ha)⟩
theorem Off.cons(o:Off c κ [acc] h)(o':Off c κ wr h):Off c κ (acc::wr) h:=⟨λa ha=>(aN.mp ha).elim (λe=>e▸o.no acc (.head _)) (o'.no a),λa ha=>(aN.mp ha).elim (λe=>e▸o.at_ acc (.head _)) (o'.at_ a)⟩
theorem rO(n:a∉wr):fP (c.lock wr h) κ a↔fP c κ a:=by
 unfold fP;rw[kC n];exact or_congr_right (or_congr_right (or_congr_right (or_congr_left ⟨λm=>(bf.mp m).elim (λq=>(n q).elim) id,aU _⟩)))
theorem Off.in_(o:Off c κ [acc] h)(n:acc∉wr):Off (c.lock wr h₀) κ [acc] h:=⟨λa ha m=>o.no a ha ((rO λq=>n (aA.mp ha▸q)).mp m),o.at_⟩
theorem Off.out(o:Off (c.lock wr h₀) κ [acc] h)(n:acc∉wr):Off c κ [acc] h:=⟨λa ha m=>o.no a ha ((rO λq=>n (aA.mp ha▸q)).mpr m),o.at_⟩
theorem Acc.un(n:dY (c.lock [acc] h) (τ.ge eS) ρ σ s)(cl:Clear c [acc])(hl:h.PlainList acc ys)(rl:fI eS.B ys.toList l):Acc c τ ρ σ acc l s:=n.el λst ht=>.mk (st.unlock cl (lG hl)).1 ht.2 (st.unlock cl (lG hl)).2.1 (hl.at λo e=>((st.unlock cl (lG hl)).2.2 acc (.head _)).trans e) (rl.mono ht.1.B)
theorem mN.elt{elt:Expr}{mi:MB}(hi:j8 fi ifs mi)(he:aD fi elt me):mN fi ifs (BS elt) (E5 mi me):=λz τ ρ σ s acc l Q E a g=>by
 refine a.el @λκ ys st ht off hl rl=>?_
 have cl:=off.clear;have g:Go (E5 mi me z.C ρ σ) (KC z.c τ acc l Q) (KE (z.c.lock [acc] s.heap) ρ E):=g.mono (λU U h=>h) λU h=>h.elim
 refine hi (z.lock [acc] s.heap cl) (τ:=τ.ge κ) (.mk (st.lock off) ⟨.refl κ,ht⟩) (g.seq λb σ g s₁ n=>?_)
 cases b with
 |false=>exact g.2 s₁ (.un n cl hl (by rw[au];exact rl))
 |true=>
  refine ao (he (z.lock [acc] s.heap cl) n (Go.seq g λw σ g v s n=>?_))
  refine n.el @λBU kK jB=>RV.d? (x:=w) jB.1 g (λd r g=>?_) aC
  have u:=kK.unlock cl (lG hl);have rl':=rl.mono jB.2.1.B
  refine ao (wpAny_list_append_plain (hl.at λo e=>(u.2.2 acc (.head _)).trans e) (λYV Nw S7=>aG (g.2 {s with heap:=YV} (.mk (u.1.mq u.2.1 z.ok λb x hb e=>(S7.2 b λq=>hb (aA.mpr q)).trans e) jB.2.2 ⟨u.2.1.no,lG Nw⟩ Nw ?_))) (ac ?_ (fj g.1)))
  ·rw[Array.toList_push];exact rl'.append (.mk rfl r rfl)
  ·rw[<-qR,rl'.length,ae];exact ak _ _
end
inductive CI{fi:FI}(z:Z fi)(target:Expr)(it:Value)(τ:cO)(eS:View)(acc:Addr)(wr:List Addr)(t:MT)(b:MC)(Q:aI->Prop)(N:Nat)(s:aI):Prop
 |mk {xs:List V} {κ:View} {ρ:Env} {σ:Store} {h:Heap} {ys:Array Value} {l:List D}:N=xs.length->St z.c κ ρ σ s->(τ.ge eS).p κ->Off z.c κ (acc::wr) s.heap->(∀b∈wr,s.heap.get? b=h.get? b)->Turn z.c.W target it wr eS xs h->s.heap.PlainList acc ys->fI κ.B ys.toList l->
   Go (hH t b z.C xs ρ σ) (KC z.c τ acc l Q) NoX->CI z target it τ eS acc wr t b Q N s
theorem CI.el{b9:Prop}(h9:CI z target it τ eS acc wr t b Q N s)(k9:∀{xs:List V} {κ:View} {ρ:Env} {σ:Store} {h:Heap} {ys:Array Value} {l:List D},N=xs.length->St z.c κ ρ σ s->(τ.ge eS).p κ->Off z.c κ (acc::wr) s.heap->(∀b∈wr,s.heap.get? b=h.get? b)->Turn z.c.W target it wr eS xs h->s.heap.PlainList acc ys->fI κ.B ys.toList l->Go (hH t b z.C xs ρ σ) (KC z.c τ acc l Q) NoX->b9):b9:=CI.rec k9 h9
theorem y1{fi:FI}(z:Z fi){elt target iter:Expr}{ifs:List Expr}{gens:List eU}{pL:Nat}{em:Value->aV->Sem Unit}{scope:fV}{pos:Pos}{it:Value}{τ:cO}{eS:View}{acc:Addr}{wr:List Addr}{mt:MT}{b:MC}{RR:jw->aI->Prop}{N:Nat}{s:aI}
  (hT:qp (.ListComp elt gens scope pos) pL it (.ref acc) z.c.env=uh target iter ifs em (.ListComp elt gens scope pos) pL it (.ref acc) z.c.env) (ht:eZ fi target mt) (hb:mN fi ifs em b) (hD:acc∉wr) (i:CI z target it τ eS acc wr mt b (RR (.ok .next)) N s):
  ek z.M z.A (.compLoop (.ListComp elt gens scope pos) pL it (.ref acc) z.c.env) RR s:=by
 refine codeAny_loop rfl (CI z target it τ eS acc wr mt b (RR (.ok .next))) (λN s i=>?_) N i
 show aO _ z.A ((qp (.ListComp elt gens scope pos) pL it (.ref acc) z.c.env).onRaise (λx=>do zH x z.c.env;theTreesLotGoes x)) _ _ s
 refine wpAny_noted ?_;simp only [hT];refine i.el @λxs κ ρ σ h ys l e st Be off same turn hl rl g=>?_
 have as:Gp wr eS h z.A s:=⟨z.a.handled,same,λa o e=>st.know a o (Be.1.B a o e)⟩
 have kt:∀{h'},Kept wr s.heap h'->Kept (acc::wr) s.heap h':=λk b x hb=>k b x λq=>hb (.tail _ q)
 refine ao (eT (ao ?_));cases xs with
 |nil=>
  exact turn z.A s _ _ as λh' tk k=>aG (g.2 {s with heap:=h',toks:=tk} (.mk (st.mq off z.ok (kt k)) Be.2 ⟨off.one.no,lG (hl.at λo e=>k acc o hD e:h'.PlainList acc ys)⟩ (hl.at λo e=>k acc o hD e:h'.PlainList acc ys) (by rw[au];exact rl)))
 |cons x xs=>
  refine turn z.A s _ _ as λv h₁ EX go=>ao (go z.A _ _ z.a.handled λh' tk k yV dr EY=>?_)
  have Ny:h'.PlainList acc ys:=hl.at λo e=>k acc o hD e
  have hs':∀b∈acc::wr,(h'.get? b).isSome:=λb hb=>(aN.mp hb).elim (λe=>e▸rN Ny) (yV b)
  refine st.drawn (tk:=tk) z.ok off Be (kt k) hs' dr λNz st off Be le=>?_
  have cl:=off.clear;refine ao (ht.go (z.lock (acc::wr) h' cl) (τ:=(τ.ge eS).ge Nz) (.mk (st.lock off) ⟨Be.1,.refl Nz,Be.2⟩) (fR.toR g λρ σ g s n=>?_))
  refine n.el @λBU kK jB=>?_
  have u:=kK.unlock cl hs';have oW:=u.2.1.rest
  have S8:∀(q:Env×List D) σ₂,Go ((hH mt b z.C xs q.1 σ₂).bind λr Iv=>(.ok (r.1,q.2++r.2) Iv)) (KC z.c τ acc l (RR (.ok .next))) NoX->Go (hH mt b z.C xs q.1 σ₂) (KC z.c τ acc (l++q.2) (RR (.ok .next))) NoX:=λq σ₂ g=>g.seq λr σ h=>by
   unfold KC at h⊢;rw[ai];exact h
  refine ao (gb (hb (z.lock wr s.heap oW.clear) (Q:=λs=>∃m,m<N/\CI z target it τ eS acc wr mt b (RR (.ok .next)) m s) (.mk (u.1.lock oW) jB.2 (u.2.1.one.in_ hD) (Ny.at λo e=>(u.2.2 acc (.head _)).trans e) ((rl.mono le.B).mono jB.1.B)) (g.seq λq σ₂ g=>⟨?_,λSH a=>?_⟩)) (λok SH h=>?_) λU U h=>h)
  ·obtain ⟨r,σ',h, -⟩:=(S8 q σ₂ g).any;rw[ae] at h;exact ac (ak _ _) h
  ·exact a.el λwA S9 PN S_ Ta=>⟨_,e▸cy _,.mk rfl (wA.unlock oW.clear oW.at_).1 S9 ((PN.out hD).cons (wA.unlock oW.clear oW.at_).2.1) (λb hb=>((wA.unlock oW.clear oW.at_).2.2 b hb).trans (u.2.2 b (.tail _ hb))) EY S_ Ta (S8 q σ₂ g)⟩
  ·cases ok with
   |false=>exact aG ⟨rfl,h⟩
   |true=>exact ao (gb h (λU YW YX=>aG ⟨rfl,YX⟩) λU U h=>h)
noncomputable def y3(cap:List (Option Nat))(ρ ρ':Env):Prop:=∀(j i:Nat),cap[j]? =some (some i)->ρ'[j]? =ρ[j]?
noncomputable def YY(cap:List (Option Nat))(ρ:Env)(r:RS):Prop:=match r with
 | .stuck=>True
 | .ok _ ρ' _=>y3 cap ρ ρ'
 | .exc _ _=>True
noncomputable def Bf(cap:List (Option Nat))(ρ:Env)(r:Res (Env×List D)):Prop:=match r with
 | .stuck=>True
 | .ok q _=>y3 cap ρ q.1
 | .exc _=>True
noncomputable def mP(cap:List (Option Nat))(t:MT):Prop:=∀x C ρ σ,YY cap ρ (t x C ρ σ)
noncomputable def ui(cap:List (Option Nat))(b:MC):Prop:=∀C ρ σ,Bf cap ρ (b C ρ σ)
section
theorem y3.refl:y3 cap ρ ρ:=λU U U=>rfl
theorem y3.trans(h:y3 cap ρ ρ')(h':y3 cap ρ' ρ''):y3 cap ρ ρ'':=λj i e=>(h' j i e).trans (h j i e)
theorem y3.set(h:cap[k]? =some none)(v:Option V):y3 cap ρ (ρ.set k v):=λj i e=>cn λq=>by subst q;cases h.symm.trans e
theorem YY.toR(h:YY cap ρ r)(g:∀ρ' σ,Bf cap ρ' (k ρ' σ)):Bf cap ρ (r.toR k):=by
 cases r with
 |stuck=>trivial
 |ok f ρ' σ=>cases f with
  |next=>
   have g:=g ρ' σ;show Bf cap ρ (k ρ' σ)
   cases e:k ρ' σ with
   |ok q τ=>rw [e] at g;exact y3.trans h g
   |_=>trivial
  |_=>trivial
 |exc k ρ=>trivial
theorem Bf.seq(h:Bf cap ρ r)(g:∀q σ,Bf cap q.1 (k q σ)):Bf cap ρ (r.bind k):=by
 cases r with
 |stuck=>trivial
 |ok q σ=>
  have g:=g q σ;show Bf cap ρ (k q σ)
  cases e:k q σ with
  |ok q τ=>rw [e] at g;exact y3.trans h g
  |_=>trivial
 |exc k=>trivial
theorem Bf.of{α:Type}{r:Res α}{k:α->Store->Res (Env×List D)}(g:∀q σ,Bf cap ρ (k q σ)):Bf cap ρ (r.bind k):=by
 cases r with
 |ok q σ=>exact g q σ
 |_=>trivial
theorem mP.var(h:cap[k]? =some none):mP cap (BH k):=λU U U U=>y3.set h _
theorem mP.two(h:cap[k]? =some none)(h':cap[m]? =some none):mP cap (Dq [BH k,BH m]):=λx C ρ σ=>by
 unfold Dq;cases itemsOf x with
 |none=>trivial
 |some xs=>cases xs with
  |nil=>trivial
  |cons a xs=>cases xs with
   |nil=>trivial
   |cons b xs=>cases xs with
    |nil=>exact (y3.set h _).trans (y3.set h' _)
    |cons c xs=>trivial
theorem BV{mi:MB}:ui cap (E5 mi me):=λC ρ σ=>Bf.of λb σ=>by
 cases b with
 |false=>exact y3.refl
 |true=>
  refine Bf.of λv σ=>?_
  cases v with
  |d x=>exact y3.refl
  |_=>trivial
theorem uT(ht:mP cap t)(hb:ui cap b):∀ρ σ,Bf cap ρ (hH t b C xs ρ σ):=by
 induction xs with
 |nil=>exact λρ σ=>y3.refl
 |cons x xs ih=>exact λρ σ=>(ht x C ρ σ).toR λρ σ=>(hb C ρ σ).seq λq σ=>(ih q.1 σ).seq λq σ=>y3.refl
theorem Bf.and{K:Env×List D->Store->Prop}(h:Bf cap ρ r)(g:Go r K X):Go r (λq σ=>y3 cap ρ q.1/\K q σ) X:=by
 cases r with
 |stuck=>exact g
 |ok q σ=>exact ⟨h,g⟩
 |exc k=>exact g
end
noncomputable def ri(r:Res (Env×List D)):Res V:=r.YU.bind λq σ=>if q.2.length<=lim then .ok (.d (.list q.2)) σ else .stuck
noncomputable def s6(mi:MI)(t:MT)(b:MC)(cap:List (Option Nat)):ME:=λC ρ σ=>(mi C ρ σ).bind λxs σ₁=>ri (hH t b C xs (Ho cap ρ) σ₁)
theorem Go.comp{K:V->Store->Prop}(g:Go (ri r) K X):Go r (λq σ=>q.2.length<=lim/\K (.d (.list q.2)) σ) NoX:=by
 cases r with
 |stuck=>exact g
 |ok q σ=>exact Go.OW g
 |exc k=>exact g
section
variable{mt:MT}
structure Af(fi:FI)(scope:fV)(vars:List Str)(cap:List (Option Nat))(elt target iter:Expr)(ifs:List Expr)(rest:List eU)(em:Value->aV->Sem Unit)(pos:Pos)(mi:MI)(mt:MT)(b:MC):Prop where
 hT:∀(it acc:Value) (env:aV),qp (.ListComp elt (⟨target,iter,ifs,0⟩::rest) scope pos) 0 it acc env=uh target iter ifs em (.ListComp elt (⟨target,iter,ifs,0⟩::rest) scope pos) 0 it acc env
 K:gm fi scope vars cap
 hI:fW fi iter target mi
 ht:eZ (oo fi scope vars) target mt
 hk:mP cap mt
 hb:mN (oo fi scope vars) ifs em b
 hkb:ui cap b
 hs:∀(env:aV) (x:Value),fE iter env x=pure x
inductive Left(c:Cx)(τ:cO)(ρ:Env)(σ:Store)(D:Value)(l:V)(C:Addr)(s:aI):Prop
 |mk {κ:View} {m:Str->Option Value}:St c κ ρ σ s->(τ.v D l).p κ->Off c κ [C] s.heap->s.heap.Ns C m->Left c τ ρ σ D l C s
theorem Left.el{c:Cx}{ρ:Env}{D:Value}{C:Addr}{b9:Prop}(h9:Left c τ ρ σ D l C s)(k9:∀{κ:View} {m:Str->Option Value},St c κ ρ σ s->(τ.v D l).p κ->Off c κ [C] s.heap->s.heap.Ns C m->b9):b9:=Left.rec k9 h9
theorem wH(z:Z fi)(I:Af fi scope vars cap elt target iter ifs rest em pos mi mt b){τ:cO}{κ:View}{ρ:Env}{σ:Store}{wr:List Addr}{xs:List V}{it:Value}{s:aI}{RR:Value->Addr->jw->aI->Prop}{E:Pq Value}{Tb:V->Store->Prop}(lp:Loop z.c target it τ κ ρ σ wr xs s)
  (g:Go (hH mt b z.C xs (Ho cap ρ) σ) (λq σ=>q.2.length<=lim/\Tb (.d (.list q.2)) σ) NoX) (hR:∀l σ,Tb l σ->∀D C s,Left z.c τ ρ σ D l C s->RR D C (.ok .next) s):
  aO z.M z.A (newList []) (λacc s=>aO z.M z.A (newFunctionEnv scope z.c.env.globals (y0 z.c scope) [] z.c.env.qual none .none (some z.c.env)) (λTc s=>
   ek z.M z.A (.compStart (.ListComp elt (⟨target,iter,ifs,0⟩::rest) scope pos) 0 it acc {Tc with scope:=Ba scope z.c.env}) (RR acc Tc.locals) s) E s) E s:=by
 have st:=lp.st;have K:gm z.c.fi scope vars cap:=by rw[z.fi];exact I.K
 refine df (wpAny_newFunctionEnv (λx hx=>(K.names x hx).1) (λU h=>absurd h bu) (λh₁ rK PP=>?_) K.kind)
 have a2:=bC s.heap (o:={cls:=.type "list",dict:=none,data:=.seq ([]).toArray}) rfl;have a1:∀b o,s.heap.get? b=some o->(s.heap.push {cls:=.type "list",dict:=none,data:=.seq ([]).toArray}).get? b=some o:=λb o=>az _
 have hC:s.heap.objs.size<(s.heap.push {cls:=.type "list",dict:=none,data:=.seq ([]).toArray}).objs.size:=cA a2
 revert a1 a2 hC rK PP
 generalize s.heap.push {cls:=.type "list",dict:=none,data:=.seq ([]).toArray}=H
 intro rK PP a2 a1 hC;have hCle:=cf hC;have old:∀b o,s.heap.get? b=some o->h₁.get? b=some o:=λb o e=>PP.extBut b o (λq=>old_ne (isSome_of e) (q▸hCle)) (az _ (a1 b o e))
 have Td:h₁.PlainList s.heap.objs.size #[]:=⟨_,PP.extBut _ _ (bT hC) (az _ a2)⟩;obtain ⟨dat,Gx,hd⟩:∃dat,(∃o,h₁.get? z.c.env.locals=some o/\o.data=dat)/\∀vs,dat≠ .fields vs:=by
  refine cps λP9 k9=>?_
  refine st.vars.el λhm U=>?_
  obtain ⟨o,es,ep,ho,hd,U⟩:=hm;refine k9 ?_;exact ⟨_,⟨o,old _ _ ho,hd⟩,nofun⟩
 have ok:=Ls (h':=h₁) st z.ok K hCle hd;have wI:∀{b},s.heap.objs.size<=b->(s.heap.get? b).isSome->False:=λh e=>old_ne e h
 have off:Off (jg z.c scope vars h₁ H.objs.size dat) κ (s.heap.objs.size::wr) h₁:=⟨λa ha m=>(Dv m).elim
   (λe=>(aN.mp ha).elim (λq=>bT hC (q.symm.trans e)) λq=>wI hCle (e▸lp.off.at_ a q))
   λm=>(aN.mp ha).elim (λq=>wI (ax _) (q▸st.lt m)) λq=>lp.off.no a q m,
  λa ha=>(aN.mp ha).elim (λe=>e▸rN Td) λh=>some_at (lp.off.at_ a h) λo e=>isSome_of (old a o e)⟩
 have same:∀b∈wr,h₁.get? b=s.heap.get? b:=λb hb=>some_at (lp.off.at_ b hb) λo e=>(old b o e).trans e.symm
 have loop:ek z.M z.A (.compLoop (.ListComp elt (⟨target,iter,ifs,0⟩::rest) scope pos) 0 it (.ref s.heap.objs.size) (compEnvC scope (y0 z.c scope) H.objs.size z.c.env)) (RR (.ref s.heap.objs.size) H.objs.size) {s with heap:=h₁,toks:=s.toks+([]:List (Str×Value)).length}:=
  y1 (⟨jg z.c scope vars h₁ H.objs.size dat,z.n,z.A,z.C,by show oo z.c.fi scope vars=_;rw[z.fi],ok,⟨z.a.handled,z.a.guards,z.Xx I.K.comp,z.a.depth,z.a.units⟩,z.call⟩) (τ:=τ.ge κ) (I.hT _ _ _) I.ht I.hb (λm=>wI (ax _) (lp.off.at_ _ m))
   (.mk (l:=[]) rfl (st.PJ z.ok K hCle old rK Gx) ⟨.refl κ,.refl κ,lp.ht⟩ off same lp.turn Td rfl (Go.mono ((uT I.hk I.hkb (Ho cap ρ) σ).and g) (λq σ' h=>⟨h.2.1,λs' a=>?_⟩) λU h=>h))
 ·exact codeAny_compStart_list loop (lp.self z.A _ _ _ ⟨z.a.handled,same,λa o e=>old _ _ (st.know a o e)⟩ loop)
 ·refine a.el λst' Dp Te Ny rl'=>?_
  refine (st.PK z.ok K hCle old Gx Dp.1 st' λj v hj=>(E4 hj).elim λi hi=>(h.1 j i hi.1).trans hj).elim λkK PQ=>Ny.elim λN e=>?_
  have t:=kK.tell (λm=>by
   rcases m with m|m|m|m
   ·exact gu (st.KO (ax _)) m
   ·exact Te.no _ (.head _) (.inr (.inl m))
   ·exact wI (ax _) (st.priv _ m).at_
   ·exact m.elim (λm=>wI (ax _) (st.hid _ m).at_) λm=>Te.no _ (.head _) (.inr (.inr (.inr (.inr m))))) e
  exact st'.vars.el λhm U=>hR _ _ h.2.2 _ _ _ (.mk t.2 ⟨.mk rfl (gz ..) rfl rfl (λU=>rfl) (rl'.mono t.1.B),τ.up t.1 Dp.2⟩ (PQ.tell λe=>bT hC (aA.mp e)) hm)
theorem Iw{z:Z fi}{ρ:Env}{σ:Store}{K:V->Store->Prop}{X:Int->Prop}{K':List V->Store->Prop}(g:Go (s6 mi mt b cap z.C ρ σ) K X)(h:∀xs σ,Go (hH mt b z.C xs (Ho cap ρ) σ) (λq σ=>q.2.length<=lim/\K (.d (.list q.2)) σ) NoX->K' xs σ):Go (mi z.C ρ σ) K' X:=g.seq λxs σ g=>h xs σ (Go.comp g)
theorem aD.comp(I:Af fi scope vars cap elt target iter ifs rest em pos mi mt b):aD fi (.ListComp elt (⟨target,iter,ifs,0⟩::rest) scope pos) (s6 mi mt b cap):=λz τ ρ σ s Q E st g=>by
 have K:gm z.c.fi scope vars cap:=by rw[z.fi];exact I.K
 exact ng rfl (I.hs _) (E2 z.ok K) K.kind (λx hx=>(K.names x hx).2.1) (I.hI z st (Iw g λxs σ g it κ wr s lp=>wH z I lp g λl σ g D C s h=>h.el @λκ m st ht off hm=>⟨m,hm,λh' hs=>g D _ (.mk (st.mq off z.ok λb x hb e=>(hs.2 b λq=>hb (aA.mpr q)).trans e) ht)⟩))
theorem cb.Lu{py Tf:Pos}{i:Nat}{y:Str}(I:Af fi scope vars cap elt target iter ifs rest em pos mi mt b)(hy:sP fi i y)(hsw:∀env:aV,env.scope=fi.scope->fU (.ListComp elt (⟨target,iter,ifs,0⟩::rest) scope pos) (some (.Name y py)) Tf.line env=pure true):
  cb fi (.Assign [.Name y py] (.ListComp elt (⟨target,iter,ifs,0⟩::rest) scope pos) Tf) (BI (s6 mi mt b cap) (BH i)):=λz τ ρ σ s Q E st g=>by
 have K:gm z.c.fi scope vars cap:=by rw[z.fi];exact I.K
 rw[exec_Assign_Name_used _ _ _ _ (hsw z.c.env (by rw[z.ok.scope,z.fi]))]
 refine ao (eT (ao ?_));refine ao (gb (ng rfl (I.hs _) (E2 z.ok K) K.kind (λx hx=>(K.names x hx).2.1) (I.hI z st (Go.seq (fR.nk g λx σ g=>g) λxs σ g it κ wr s lp=>
  wH z I lp (Go.comp g) λl σ g D C s h=>?_))) (λU U h=>aG (aG h)) λU U h=>h)
 exact h.el @λκ m st ht off hm=>(eZ.var hy).go (z.lock [C] s.heap off.clear) (.mk (st.lock off) ht) (λs₂ n=>n.el λkK jB=>⟨m,hm.at' λo e=>((kK.unlock off.clear off.at_).2.2 _ (.head _)).trans e,λh' hs=>g _ (.mk ((kK.unlock off.clear off.at_).1.mq (kK.unlock off.clear off.at_).2.1 z.ok λb x hb e=>(hs.2 b λq=>hb (aA.mpr q)).trans e) jB)⟩)
end
section
variable{elt s7 vo target iter:Expr}{o_ ifs:List Expr}{scope:fV}{pos:Pos}
theorem Iy(it acc:Value)(env:aV):qp (.ListComp elt [⟨target,iter,ifs,0⟩] scope pos) 0 it acc env=uh target iter ifs (BS elt) (.ListComp elt [⟨target,iter,ifs,0⟩] scope pos) 0 it acc env:=rfl
theorem Gy(it acc:Value)(env:aV):qp (.ListComp elt [⟨s7,vo,o_,0⟩,⟨target,iter,ifs,0⟩] scope pos) 1 it acc env=uh target iter ifs (BS elt) (.ListComp elt [⟨s7,vo,o_,0⟩,⟨target,iter,ifs,0⟩] scope pos) 1 it acc env:=rfl
noncomputable def Dx(e iter:Expr)(acc:Value)(env:aV):Sem Unit:=do
 let x<-eval iter env
 f' iter.pos
 let x<-fE iter env x
 let _<-runOwn (.compStart e 1 (<-g9 [x] (gT x)) acc env) env
theorem GA(it acc:Value)(env:aV):qp (.ListComp elt [⟨s7,vo,o_,0⟩,⟨target,iter,ifs,0⟩] scope pos) 0 it acc env=uh s7 vo o_ (Dx (.ListComp elt [⟨s7,vo,o_,0⟩,⟨target,iter,ifs,0⟩] scope pos) iter) (.ListComp elt [⟨s7,vo,o_,0⟩,⟨target,iter,ifs,0⟩] scope pos) 0 it acc env:=by
 unfold uh Dx;simp only [bind_assoc,pure_bind];rfl
noncomputable def E6(mi:MI)(t:MT)(b:MC):MC:=λC ρ σ=>(mi C ρ σ).bind λxs σ₁=>hH t b C xs ρ σ₁
theorem BW{cap:List (Option Nat)}{mi:MI}{t:MT}{b:MC}(ht:mP cap t)(hb:ui cap b):ui cap (E6 mi t b):=λC ρ σ=>Bf.of λxs σ=>uT ht hb ρ σ
theorem Dy{prog:lr}{w:va}{A:dX}{R:jw->aI->Prop}{s:aI}{it acc:Value}{env:aV}
  (h0:ek (bS prog w) A (.compLoop (.ListComp elt [⟨s7,vo,o_,0⟩,⟨target,iter,ifs,0⟩] scope pos) 1 it acc env) R s)
  (h:aO (bS prog w) A (gT it) (λYZ s'=>ek (bS prog w) A (.compLoop (.ListComp elt [⟨s7,vo,o_,0⟩,⟨target,iter,ifs,0⟩] scope pos) 1 YZ acc env) R s') (A_ (bS prog w) A env λx s'=>R (.error x) s') s):
  ek (bS prog w) A (.compStart (.ListComp elt [⟨s7,vo,o_,0⟩,⟨target,iter,ifs,0⟩] scope pos) 1 it acc env) R s:=by
 refine pk ?_;refine wpAny_notedAt ?_;refine ao (uM (wpAny_ite ?_))
 split
 ·first
   |exact ao (aG (aG (qL rfl h0)))
   |exact aG (qL rfl h0)
 ·first
   |exact ao (sA (ao (eT (ao (gb h (λYZ s' h'=>aG (qL rfl h')) λU U x=>x)))))
   |(refine ao (sA ?_);show aO _ _ (f' iter.pos>>=_) _ _ s;exact ao (eT (ao (gb h (λYZ s' h'=>aG (qL rfl h')) λU U x=>x))))
theorem mN.nest{fi:FI}{mi:MI}{mt:MT}{b:MC}(hI:fW fi iter target mi)(ht:eZ fi target mt)(hb:mN fi ifs (BS elt) b)(hs:∀(env:aV) (x:Value),fE iter env x=pure x):
  mN fi [] (Dx (.ListComp elt [⟨s7,vo,o_,0⟩,⟨target,iter,ifs,0⟩] scope pos) iter) (E6 mi mt b):=λz τ ρ σ s acc l Q E a g=>by
 refine vQ ?_;refine a.el @λκ ys st Be off hl rl=>?_
 have cl:=off.clear;refine ao (gb (hI (z.lock [acc] s.heap cl) (τ:=τ.ge κ) (Q:=λit s=>aO z.M z.A (runOwn (.compStart (.ListComp elt [⟨s7,vo,o_,0⟩,⟨target,iter,ifs,0⟩] scope pos) 1 it (.ref acc) z.c.env) z.c.env) (λU s=>Q s) E s) (.mk (st.lock off) ⟨.refl κ,Be⟩) (Go.mono (Go.seq g λxs σ g it BU wr s₂ lp=>?_) (λU U h=>h) λU h=>h.elim)) (λx s₁ q=>?_) λU U h=>h)
 ·have u:=lp.st.unlock cl (lG hl);have nD:acc∉wr:=λm=>lp.off.no acc m (.inr (.inr (.inr (.inl (.head _)))))
  have oW:Off z.c BU wr s₂.heap:=⟨λa ha m=>lp.off.no a ha ((rO λq=>nD (by cases aA.mp q;exact ha)).mpr m),lp.off.at_⟩
  have loop:∀RR:jw->aI->Prop,(∀s,Q s->RR (.ok .next) s)->ek z.M z.A (.compLoop (.ListComp elt [⟨s7,vo,o_,0⟩,⟨target,iter,ifs,0⟩] scope pos) 1 it (.ref acc) z.c.env) RR s₂:=λRR h=>
   y1 z (Gy _ _ _) ht hb nD (.mk rfl u.1 ⟨.refl BU,lp.ht.2⟩ (u.2.1.cons oW) (λU U=>rfl) lp.turn (hl.at λo e=>(u.2.2 acc (.head _)).trans e) (rl.mono lp.ht.1.B) (Go.mono g (λq σ k=>⟨k.1,λs a=>h s (k.2 s a)⟩) λU h=>h))
  exact wpAny_runOwn (Dy (loop _ λs q=>q) (lp.self z.A _ _ _ ⟨z.a.handled,λU U=>rfl,lp.st.know⟩ (loop _ λs q=>q)))
 ·exact ao (eT (ao (fG (hs _ _) (ao (dz (gb q (λit s₂ q=>ao (gb q (λU U z=>aG z) λU U z=>z)) λU U h=>h))))))
end
noncomputable def E7(v:V):M V:=v.fu (λa=>if small a then M.ret (.d (.str (gB a))) else M.no)<|v.onStr (λx=>if x.length<=lim then M.ret (.d (.str x)) else M.no) M.no
noncomputable def Th(m:ME):ME:=λC ρ σ=>(m C ρ σ).bind E7
section
variable{fi:FI}
theorem aD.fmt{e:Expr}{pos:Pos}{m:ME}(h:aD fi e m):aD fi (.FormattedValue e (-1) bc pos) (Th m):=λz τ ρ σ s Q E st g=>
 wpAny_FormattedValue_plain (h z st (g.seq λx σ g v s n=>n.one λκ st rv ht=>rv.n8 (G:=z.g s Q E λv=>formatField v Hk) g (λi t g=>by
  exact (Go.ite g).elim λh g=>wpAny_formatField_int (log2_small h) (g _ _ (.mk (st.tok _) ⟨⟨_,rfl⟩,ht⟩))) λg=>rv.mc g (λy t g=>(Go.ite g).elim λh g=>wpAny_formatField_str (g _ _ (.mk st ⟨⟨_,rfl⟩,ht⟩)) (g _ _ (.mk (st.tok _) ⟨⟨_,rfl⟩,ht⟩)) (by rw[sG];exact fj h)) aC))
noncomputable def E8(acc:Tx)(k:Tx->M Tx)(v:V):M Tx:=v.onStr (λy=>if (acc++y).length<=lim then k (acc++y) else M.no) M.no
noncomputable def Dz(ps:List ME):Tx->nj->Env->M Tx:=match ps with
 |[]=>λacc U U=>M.ret acc
 |p::r=>λacc C ρ σ=>(p C ρ σ).bind (E8 acc λa=>Dz r a C ρ)
noncomputable def Lv(ps:List ME):ME:=λC ρ σ=>(Dz ps [] C ρ σ).bind λx=>M.ret (.d (.str x))
noncomputable def mQ(fi:FI)(es:List Expr)(ps:List ME):Prop:=∀(z:Z fi) {τ:cO} {ρ:Env} {σ:Store} {s:aI} {acc:Tx} {Q:Str->aI->Prop} {E:Pq Value},dY z.c τ ρ σ s->acc.length<=lim->Go (Dz ps acc z.C ρ σ) (λout σ=>out.length<=lim->∀s,dY z.c τ ρ σ s->Q (S out) s) (KE z.c ρ E)->Joins z.M z.A E (C8 es z.c.env) (S acc) Q s
theorem mQ.nil:mQ fi [] []:=λU U U U U U U U n hl g=>g hl _ n
theorem mQ.cons{e:Expr}{es:List Expr}{m:ME}{ms:List ME}(h:aD fi e m)(hs:mQ fi es ms):mQ fi (e::es) (m::ms):=λz τ ρ σ s acc Q E n hl g=>
 h z n (g.seq λx σ g v s n=>by
  refine n.el λst ht=>RV.mc (G:=λv=>∃y t,v= .str y t/\(S acc++y).length<=fe/\Joins z.M z.A E (C8 es z.c.env) (S acc++y) Q s) ht.1 g (λy t g=>?_) aC
  refine (Go.ite g).elim λh g=>⟨_,t,rfl,?_⟩
  rw[<-sM];exact ⟨fj h,hs z (.mk st ht.2) h g⟩)
theorem aD.joined{DA Lw:Expr}{es:List Expr}{pos:Pos}{ps:List ME}(h:mQ fi (DA::Lw::es) ps):aD fi (.JoinedStr (DA::Lw::es) pos) (Lv ps):=λz τ ρ σ s Q E n g=>
 wpAny_JoinedStr (h z n (aZ _) (g.seq λout σ g hl s n=>⟨fj hl,g _ _ ((n.tok _).d λU=>⟨_,rfl⟩)⟩))
end
noncomputable abbrev toDs:List V->Option (List D):=lD
noncomputable def E9(i:Nat)(o:Option O):M V:=O.c7 o (λl=>sF (toDs l) λds σ=>.ok (.d (.list ds)) (σ.set i .dead)) M.no
noncomputable def BX(v:V):M V:=v.jA (λi σ=>E9 i σ[i]? σ)<|v.yj (λx=>M.ret (.d x)) M.no
theorem O.hZ{γ:Type}{f:List V->M γ}{K:γ->Store->Prop}(g:Go (O.c7 o f M.no σ) K X):∃l,o=some (.list l)/\Go (f l σ) K X:=by
 cases o with
 |none=>exact g.elim
 |some o=>cases o with
  |list l=>exact ⟨l,rfl,g⟩
  |_=>exact g.elim
section
theorem St.BX(st:St c κ ρ σ s)(ok:c.Ok)(hl:σ[i]? =some (.list l))(hd:toDs l=some ds):∃κ',κ.le κ'/\St c κ' ρ (σ.set i .dead) s/\∀v,jy κ'.ι v i->RV κ' v (.d (.list ds)):=by
 refine (st.store i _ hl).el λhi ro=>ro.el @λa vs n e hg hr=>?_
 subst e;have le:=View.zJ {cls:=.type "list",data:=.seq vs.toArray n} ((st.cell i [a] _ hi hl rfl a (.head _)).B);have st':=st.Nj ok (o':=.dead) hl rfl λU U=>trivial
 have no:∀b,b≠a->κ.B b=none->ins κ.B a {cls:=.type "list",data:=.seq vs.toArray n} b=none:=λb h e=>(wb h).trans e
 refine ⟨_,le,st'.EF le.B (zL st.know hg) λb hb=>?_,λv r=>?_⟩
 ·rcases hb with h|h|⟨j,as,o,g1,g2,g3,g4⟩
  ·exact no b (fQ st h (dU hi (.head _))) (st.priv b h).B
  ·exact no b (λe=>(st.hid b h).ι (e▸dU hi (.head _))) (st.hid b h).B
  ·refine no b (λe=>?_) (st'.cell j as o g1 g2 g3 b g4).B
   obtain rfl:=wu (bz.mp st.nodup).2.1 hi g1 (.head _) (e▸g4);obtain rfl:=aF ((dD (aL.mp hl).1).symm.trans g2);exact absurd g3 nofun
 ·refine r.el λe h=>?_
  cases h.symm.trans hi;exact .mk e (gz _ _ _) rfl rfl (λU=>rfl) ((hr.lD hd).mono le.B)
end
noncomputable def Y0(m:ME):ME:=λC ρ σ=>(m C ρ σ).bind BX
theorem aD.BX{fi:FI}{m:ME}(h:aD fi e m):aD fi e (Y0 m):=λz τ ρ σ s Q E n g=>h z n (g.seq λx σ g v s n=>by
 refine n.el λst ht=>RV.tZ ht.1 g (λi r g=>?_) λg=>RV.d? ht.1 g (λd r g=>g v s (.mk st ⟨r,ht.2⟩)) aC
 obtain ⟨l,hl,g⟩:=O.hZ g;obtain ⟨ds,hd,g⟩:=Go.sF g;exact (st.BX z.ok hl hd).elim λκ' z0=>z0.elim λle z1=>z1.elim λst' hr=>g v s (.mk st' ⟨hr v (r.mono le.ι),τ.up le ht.2⟩))
noncomputable def NA(k j:Nat)(o:Option O):M V:=O.eH o (λcl l=>sF (mL l k) λv σ=>(BX v σ).bind λd σ'=>.ok d (σ'.set j (.inst cl (oj l k d)))) M.no
noncomputable def BY(k:Nat)(v:V):M V:=v.jA (λj σ=>NA k j σ[j]? σ) M.no
noncomputable def Iz(k:Nat)(m:ME):ME:=λC ρ σ=>(m C ρ σ).bind (BY k)
theorem Bc.swap(f:∀v,RV κ v y->RV κ v y'):∀{es:List bh},Bc κ es l->mL l k=some y->Bc κ es (oj l k y'):=by
 induction l with
 |nil=>exact λU h=>nomatch h
 |cons p l ih=>
  intro es r h;unfold mL at h;unfold oj
  by_cases e:p.1=k
  ·simp only [if_pos e] at h⊢;obtain rfl:=aF h;exact kJ.imp r (λU q=>by cases q with|mk a b c=>exact .mk (e▸a) (e▸b) (f _ c)) λU q=>q
  ·simp only [if_neg e] at h⊢;exact kJ.imp r (λU q=>q) λU q=>ih q h
section
variable(z:Z fi)
theorem wJ(st:St z.c κ ρ σ s)(ht:τ.p κ)(hj:σ[j]? =some (.inst cl l))(hk:mL l k=some x)(rd:RV κ v d)(f:∀w,RV κ w x->RV κ w d)(g:KV z.c τ ρ Q d (σ.set j (.inst cl (oj l k d)))):Q v s:=
 g v s (.mk (st.Nj z.ok hj rfl λas ro=>by
  refine ro.el λe g1 g2 rf nd RP=>.mk e g1 g2 (rf.swap f hk) (nq nd).1 λp hp=>?_
  rcases (nq nd).2.2 p hp with e|⟨q,hq,e⟩
  ·rw[e];exact RP _ (BE hk)
  ·rw[<-e];exact RP q hq) ⟨rd,ht⟩)
theorem GB(hj:σ[j]? =some (.inst cl l))(hk:mL l k=some x)(g:Go ((BX x σ).bind λd σ'=>.ok d (σ'.set j (.inst cl (oj l k d)))) (KV z.c τ ρ Q) X):KV z.c τ ρ Q x σ:=λv s n=>by
 cases n with|@mk κ st ht=>
 cases x with
 |d y=>exact wJ z st ht.2 hj hk ht.1 (λU h=>h) g
 |obj i=>
  obtain ⟨l₁,hl,g⟩:=O.hZ (Go.seq g λd σ g=>g)
  obtain ⟨ds,hd,g⟩:=Go.sF g;refine (st.BX z.ok hl hd).elim λκ' z0=>z0.elim λle z1=>z1.elim λst' hr=>wJ z st' (τ.up le ht.2) ((cn (λq=>by subst q;cases hl.symm.trans hj)).trans hj) hk (hr v (jy.mono le.ι ht.1)) (λw r=>hr w r) g
 |_=>exact g.elim
theorem aD.Lx(h:aD fi e (Nh k m)):aD fi e (Iz k m):=λz τ ρ σ s Q E n g=>h z n (by
 show Go ((m z.C ρ σ).bind (BD k)) _ _;have g:Go ((m z.C ρ σ).bind (BY k)) (KV z.c τ ρ Q) (KE z.c ρ E):=g
 revert g
 cases m z.C ρ σ with
 |stuck=>exact id
 |exc q=>exact id
 |ok y τ'=>
  intro g;cases y with
  |obj j=>
   refine (O.wg g).elim λcl z0=>z0.elim λl z1=>z1.elim λhj g=>(Go.sF g).elim λx z0=>z0.elim λhk g=>?_
   show Go (O.eH τ'[j]? (λU l=>M.opt (mL l k)) M.no τ') _ _
   rw[hj];show Go (M.opt (mL l k) τ') _ _;rw[hk];exact GB z hj hk g
  |_=>exact g.elim)
end
theorem stored_new{K:Type} [DecidableEq K]{p:K×Value}{r kvs:List (K×Value)}(h:((kvs++p::r).map (·.1)).Nodup):stored kvs p.1 p.2=kvs++[p]:=by
 exact if_neg λq=>by
  refine (jT.mp q).elim λx z0=>z0.elim λhx e=>?_
  simp only [aH] at h;exact (bz.mp h).2.2 x.1 (kN hx) p.1 (.head _) (of_decide_eq_true e)
theorem DB{K:Type} [DecidableEq K]{more:List (K×Value)}:∀{kvs:List (K×Value)},((kvs++more).map (·.1)).Nodup->merged kvs more=kvs++more:=by
 induction more with
 |nil=>exact λU=>(au _).symm
 |cons p r ih=>
  intro kvs h;show merged (stored kvs p.1 p.2) r=_;rw[stored_new h,ih (by rw[ai];exact h),ai];rfl
noncomputable def wK(ps:List (Tx×ME)):nj->Env->M (List (Tx×V)):=match ps with
 |[]=>λU U=>M.ret []
 |p::r=>λC ρ=>(p.2 C ρ).bind λv=>(wK r C ρ).bind λl=>M.ret ((p.1,v)::l)
noncomputable def IA(ps:List (Tx×ME)):ME:=λC ρ=>(wK ps C ρ).bind λl=>if (l.map (·.1)).Nodup then M.new (.dict l) else M.no
theorem yr.mono(h:κ.le κ')(r:yr κ kvs l):yr κ' kvs l:=dp.imp (λU U p=>⟨p.k,RV.mono h _ p.v⟩) r
noncomputable def cO.ps(τ:cO)(kvs:List (Str×Value))(l:List (Tx×V)):cO:=⟨λκ=>yr κ kvs l/\τ.p κ,λle h=>⟨h.1.mono le,τ.up le h.2⟩⟩
class inductive j3 (fi:FI):List (Option Expr)->List Expr->List (Tx×ME)->Prop
 |nil:j3 fi [] [] []
 |cons {x:Str} {k:Tx} {kd:Nat} {p:Pos} {e:Expr} {m:ME} {ks:List (Option Expr)} {es:List Expr} {ps:List (Tx×ME)}:x=S k->aD fi e m->j3 fi ks es ps->j3 fi (some (.Constant (.str x) kd p)::ks) (e::es) ((k,m)::ps)
noncomputable def pairsOf(env:aV)(pos:Pos)(ks:List (Option Expr)):List Expr->List (Sem Value×Sem Value):=match ks with
 |[]=>λU=>[]
 |k::ks=>λes=>k.elim [] λk=>es.casesOn (motive:=λU=>List (Sem Value×Sem Value)) [] λe es=>(eval k env,(do let x<-eval e env;f' pos;pure x))::pairsOf env pos ks es
section
variable{z:Z fi}
theorem IB(h:j3 fi ks es ps):∀{τ:cO} {σ:Store} {s:aI} {Q:Pq (List (Value×Value))},dY z.c τ ρ σ s->Go (wK ps z.C ρ σ) (λl σ=>∀vs kvs s,Carries (strKind z.c.W.prog z.c.W.w) vs kvs->dY z.c (τ.ps kvs l) ρ σ s->Q vs s) (KE z.c ρ E)->aO z.M z.A (evalPairs (pairsOf z.c.env pos ks es)) Q E s:=by
 induction h with
 |nil=>exact λn g=>evalPairs_nil (g [] [] _ trivial (n.le λU h=>⟨rfl,h⟩))
 |@cons x k kd p e m ks es ps hx he U ih=>
  intro τ σ s Q n g;refine evalPairs_cons (aD.str (l:=k) (k:=kd) hx z n (λkv s n=>?_))
  refine n.el λst ht=>ht.1.elim λt Io=>?_;subst Io
  refine ao (he z (.mk st ht.2) (g.seq λv σ g vv s n=>ao (eT (aG (ih n (g.seq λl σ g vs kvs s hc n=>g _ ((S k,vv)::kvs) s ⟨gO _ _ _ t,rfl,hc⟩ (n.le λU h=>⟨.mk rfl ⟨rfl,h.2.1⟩ h.1,h.2.2⟩)))))))
theorem B0(h:j3 fi ks es ps):(evalEachOpt ks env).zip ((C8 es env).map λv=>do let x<-v;f' pos;pure x)=(pairsOf env pos ks es).map (λp=>(some p.1,p.2))/\(pairsOf env pos ks es).length=ps.length:=by
 induction h with
 |nil=>exact ⟨rfl,rfl⟩
 |@cons x k kd p e m ks es ps hx he U ih=>exact ⟨congrArg (List.cons (some (eval (.Constant (.str x) kd p) env,_).1,_)) ih.1,congrArg nL ih.2⟩
theorem St.E_(st:St c κ ρ σ s)(ok:c.Ok):(s.heap.objs.size==gN)=false:=by
 refine ok.w.top.g.elim λog z0=>z0.elim λU z1=>z1.elim λU z2=>z2.elim λhog U=>?_
 have hlt:=cA (st.kept _ _ (ok.base _ _ hog));exact beq_eq_false_iff_ne.mpr λe=>by rw[e] at hlt;exact absurd hlt (by decide)
theorem Fb(z:Z fi){σ:Store}{s:aI}{Q:Pq Value}{K:V->Store->Prop}(h:j3 fi ks es ps)(h0:ps≠[])(Ti:ps.length<=15)(n:dY z.c τ ρ σ s){m:List (Tx×V)->M V}(g:Go ((wK ps z.C ρ σ).bind m) K (KE z.c ρ E))
  (fin:∀l σ,Go (m l σ) K (KE z.c ρ E)->(l.map (·.1)).Nodup/\∀D s κ es k,St z.c κ ρ σ s->τ.p κ->Off z.c κ [D] s.heap->(D==gN)=false->s.heap.get? D=some (dh es k)->Bl κ es l->Q (.ref D) s):aO z.M z.A (eval (.Dict ks es pos) z.c.env) Q E s:=by
 refine (B0 (env:=z.c.env) (pos:=pos) h).elim λsh1 sh2=>?_
 refine wpAny_Dict_pairs (knd:=strKind z.c.W.prog z.c.W.w) sh1 (λe=>h0 (di.mp (by rw[<-sh2,e];rfl))) (by rw[sh2];exact Ti) ?_
 refine n.el @λκ st ht=>?_
 have y4:(s.heap.push {cls:=.type "dict",data:=.dict #[]}).get? s.heap.objs.size=some {cls:=.type "dict",data:=.dict #[]}:=bC _ rfl;have nm:=st.E_ z.ok
 have hD:¬fP z.c κ s.heap.objs.size:=λm=>old_ne (st.lt m) (ax _)
 revert y4 nm hD
 have st₀:=st.grow (tk:=s.toks) z.ok (h':=s.heap.push {cls:=.type "dict",data:=.dict #[]}) λb o e=>az _ e
 revert st₀
 generalize s.heap.push {cls:=.type "dict",data:=.dict #[]}=H
 generalize s.heap.objs.size=D
 intro st₀ y4 nm hD;have off:Off z.c κ [D] H:=⟨λa ha=>ey (p:=λa=>¬fP z.c κ a) ha hD,λa ha=>ey (p:=λa=>(H.get? a).isSome) ha (isSome_of y4)⟩
 have cl:=off.clear;refine IB (z:=z.lock [D] H cl) h (.mk (st₀.lock off) ht) (Go.mono (Go.seq g λl σ g vs kvs s hc n=>?_) (λU U h=>h) λk h v s n=>h v s (by cases n with|mk e x=>exact .mk e (x.unlock cl)))
 refine (fin l σ g).elim λnd fin=>n.el λkK jB=>?_
 have u:=kK.unlock cl off.at_;refine ⟨kvs,hc,⟨_,#[],0,(u.2.2 D (.head _)).trans y4,⟨rfl,rfl,rfl⟩,rfl,λU h=>absurd h (Array.not_mem_empty _),.nil,d4⟩,λh' hm hs=>?_⟩
 simp only [DB (kvs:=[]) (jB.1.nodup nd)] at hm;exact (ue kK.P.P hm jB.1).elim λRN z0=>z0.elim λk z1=>z1.elim λg1 rk=>fin D _ _ RN k (u.1.mq u.2.1 z.ok λb x hb e=>(hs.2 b λq=>hb (aA.mpr q)).trans e) jB.2 ⟨u.2.1.no,λa ha=>ey (p:=λa=>(h'.get? a).isSome) ha (isSome_of g1)⟩ nm g1 rk
theorem aD.newD(h:j3 fi ks es ps)(h0:ps≠[])(Ti:ps.length<=15):aD fi (.Dict ks es pos) (IA ps):=λz τ ρ σ s Q E n g=>Fb z h h0 Ti n g λl σ g=>by
 refine (Go.ite g).elim λnd g=>⟨nd,λD s κ es k st ht off nm hD rk=>?_⟩
 exact g _ s (.mk (st.adopt (o:=.dict l) z.ok off.no (λU U U e=>e) (bQ.mpr ⟨nofun,d4⟩) off.at_ (.mk rfl hD (Bl.mono (View.kZ κ [D]) rk))).2 ⟨.mk rfl (st.adopt (tk:=s.toks) (o:=.dict l) z.ok off.no (λU U U e=>e) (bQ.mpr ⟨nofun,d4⟩) off.at_ (.mk rfl hD (Bl.mono (View.kZ κ [D]) rk))).1,τ.up (View.kZ κ [D]) ht⟩)
noncomputable def Ly(l:List (Tx×V)):Option (List (Tx×D)):=match l with
 |[]=>some []
 |p::r=>p.2.yj (λx=>(Ly r).map ((p.1,x)::·)) none
noncomputable def Tj(l:List (Tx×V)):M V:=sF (Ly l) λds=>if (ds.map (·.1)).Nodup then M.ret (.dict ds) else M.no
noncomputable def IC(ps:List (Tx×ME)):ME:=λC ρ=>(wK ps C ρ).bind Tj
theorem y5:∀{ds:List (Tx×D)},Ly l=some ds->l.map (·.1)=ds.map (·.1)/\∀{es:List bh},Bl κ es l->F4 κ.P κ.B es ds:=by
 induction l with
 |nil=>exact λh=>by cases h;exact ⟨rfl,λh=>h⟩
 |cons p l ih=>
  intro ds h;obtain ⟨k,v⟩:=p;cases v with
  |d x=>
   obtain ⟨ds',h1,rfl⟩:=a_.mp (show (Ly l).map ((k,x)::·)=some ds from h)
   exact ⟨congrArg (k::·) (ih h1).1,λh=>kJ.imp h (λU q=>by cases q with|mk a b c=>exact .mk a b c) λU q=>(ih h1).2 q⟩
  |_=>cases h
theorem aD.Tn(h:j3 fi ks es ps)(h0:ps≠[])(Ti:ps.length<=15):aD fi (.Dict ks es pos) (IC ps):=λz τ ρ σ s Q E n g=>Fb z h h0 Ti n g λl σ g=>by
 obtain ⟨ds,hd,g⟩:=Go.sF g;refine (Go.ite g).elim λnd g=>⟨by rw[(y5 (κ:=⟨z.c.W.w.params,λU=>bc,[]⟩) hd).1];exact nd,λD s κ es k st ht off nm hD rk=>?_⟩
 exact g _ s (.mk (st.tell (off.no D (.head _)) hD).2 ⟨.mk rfl nm (gz _ _ _) (F4.mono (st.tell (off.no D (.head _)) hD).1.B ((y5 hd).2 rk)),τ.up (st.tell (off.no D (.head _)) hD).1 ht⟩)
end
noncomputable def pQ(c:Nat)(z:Tx)(x:Tx):Tx:=x.flatMap λch=>if ch=c then z else [ch]
theorem wL(c:Nat)(z:Tx)(l:Tx):c∉l->pQ c z l=l:=by
 induction l with
 |nil=>exact λU=>rfl
 |cons k r ih=>
  intro h;show (if k=c then z else [k])++pQ c z r=k::r
  rw[if_neg λe:k=c=>h (e▸ .head _),ih λm=>h (.tail _ m)];rfl
theorem DC(c:Nat)(z:Tx)(l:Tx):pQ c z (c::l)=z++pQ c z l:=by
 show (if c=c then z else [c])++pQ c z l=_
 rw[if_pos rfl]
theorem Ah(c:Nat)(z a b:Tx):pQ c z (a++b)=pQ c z a++pQ c z b:=List.flatMap_append
theorem Y1(x:Tx):(S x).cps.toList=x:=rfl
theorem B1(x p q:Str)(r:List Str):(lN x (p::q::r)).cps.toList=p.cps.toList++(x.cps.toList++(lN x (q::r)).cps.toList):=by
 show (p++x++lN x (q::r)).cps.toList=_;simp only [xX,qT,xX,qT,ai]
theorem DD(c:Nat)(z:Tx)(parts:List Str):(∀p∈parts,c∉p.cps.toList)->pQ c z (lN ⟨#[c]⟩ parts).cps.toList=(lN (S z) parts).cps.toList:=by
 induction parts with
 |nil=>exact λU=>rfl
 |cons p r ih=>cases r with
  |nil=>exact λh=>wL c z _ (h p (.head _))
  |cons q r=>
   intro h;rw[B1,B1,Ah,wL c z _ (h p (.head _)),Y1,<-ih λa ha=>h a (.tail _ ha)]
   exact congrArg _ (DC c z _)
theorem GC(c:Nat)(z x:Tx):Txt.replace (S x) (S [c]) (S z)=S (pQ c z x):=by
 have h:=DD c z _ (StrLaws.split_free (S x) c);rw[StrLaws.join_split,<-(StrLaws.replace_one _ _ _)] at h
 exact (congrArg S h).symm
theorem Ai:yd (.type "list") "keys"=pure bc:=by rw[vR,pH];kernel_rfl
theorem mu:entryFor table "dict.update.loop"=some cY.«dict.update.loop»:=uN (rfl)
section
theorem GD
  (hx:s.heap.get? a=some o) (hc:o.cls= .type "list") (hd:o.data= .seq xs k) (hn:o.dict=bc) (hA:A.handled=bc)
  (h:∀h' tk e,Heap.NewExcOf s.heap h' e "AttributeError"->Q bc {s with heap:=h',toks:=tk}):
  aO (bS prog w) A (getAttr? (.ref a) "keys") Q E s:=by
 refine cps λP9 k9=>?_
 obtain ⟨hp,g,d,tk,os⟩:=s;obtain ⟨oc,od,oda,sl⟩:=o;refine k9 ?_;dsimp only at hx hc hd hn;subst hc hd hn;have f1:=sub_AttributeError;have f3:=iy.lookup
 have f4:=iy.bind (.ref a);have f5:=am_list_getattr_none
 repeat (any_goals (first|assumption|exact (λU U U U=>⟨_,hx,rfl⟩:∀g d tk os,(⟨hp,g,d,tk,os⟩).TypeIs (.ref a) "list") _ _ _ _|((with_reducible show aO _ _ (call (yD "list.__getattribute__") _ _) _ _ _);refine o6 iy ((λU U U U=>⟨_,hx,rfl⟩:∀g d tk os,(⟨hp,g,d,tk,os⟩:aI).TypeIs (.ref a) "list") _ _ _ _) am_entry_list_getattribute (F.args_list_getattribute_2 _ _) (meets_getattribute_miss_list a xs k sl "keys" _ Ai (rfl)) ⟨hx,hA,λh' K9 e hx=>?_⟩)|wp_step))
 obtain ⟨t',u',he⟩:=hx.there;unfold getattributeRaised
 repeat (any_goals (first|assumption|wp_step))
 exact h _ _ _ hx.of
inductive rP(h:Heap)(v:Value)(p:Str×Value):Prop
 |mk {T:Addr} {t:Tok}:v= .ref T->h.IsTuple T #[.str p.1 t,p.2]->rP h v p
theorem rP.el{b9:Prop}(h9:rP h v p)(k9:∀{T:Addr} {t:Tok},v= .ref T->h.IsTuple T #[.str p.1 t,p.2]->b9):b9:=rP.rec k9 h9
noncomputable abbrev vp(h h':Heap):Prop:=∀b o,h.get? b=some o->h'.get? b=some o
theorem vp.but(k:vp h₀ h)(n:h₀.get? d=bc)(hs:∀b,b≠d->h'.get? b=h.get? b):vp h₀ h':=λb o e=>(hs b λq=>gr n (q▸e)).trans (k b o e)
theorem vp.to{h h':Heap}(k:vp h h'){q:Obj->Prop}(x:∃o,h.get? a=some o/\q o):∃o,h'.get? a=some o/\q o:=x.elim λo y=>⟨o,k a o y.1,y.2⟩
theorem B2{h₀:Heap}{I D a:Addr}{items:Array Value}{Q:Value->aI->Prop}(nD:h₀.get? D=bc)(nI:h₀.get? I=bc)(Y2:D≠I)(hh:A.handled=bc)(hl:h₀.IsList a items){ps:List (Str×Value)}:
  ∀{kvs:List (Str×Value)} {i j:Nat} {s:aI},s.heap.IsListIter I a i->s.heap.DictOf (strKind prog w) D kvs->vp h₀ s.heap->dp (rP h₀) (items.toList.drop i) ps->((kvs++ps).map (·.1)).Nodup->(kvs++ps).length<=fe->
  (∀h' tk,h'.DictOf (strKind prog w) D (kvs++ps)->vp h₀ h'->Q .none {s with heap:=h',toks:=tk})->ek (bS prog w) A (.builtin "dict.update.loop" ⟨[.ref D,.ref I,jY j,.none],[]⟩) (wants Q E) s:=by
 induction ps with
 |nil=>
  intro kvs i j s hit hD k hp _ _ hQ;refine pn mu ?_;rw[au] at hQ;refine ao (wpAny_pyNext_list_end (hh) hit (k.to hl) (by rw[<-pz];exact List.getElem?_eq_none (List.drop_eq_nil_iff.mp hp)) λh' hk=>ao (aG (aG ?_)))
  exact hQ h' s.toks (hD.elim λo x=>x.elim λes x=>x.elim λn x=>⟨o,es,n,hk _ _ Y2 x.1,x.2⟩) λb o e=>hk _ _ (λq=>gr nI (q▸e)) (k b o e)
 |cons p ps ih=>
  intro kvs i j s hit hD k hp hn wo hQ;refine pn mu ?_;refine hp.el @λv vs hv hpv PR=>hpv.el @λT t e hT=>?_
  subst e;have hx:items[i]? =some (.ref T):=by
   rw[<-pz,<-A7 i,<-sk,hv];rfl
  refine ao (wpAny_pyNext_list_item hit (k.to hl) hx λh₁ PT rh=>?_)
  refine ao (dz (ao (wpAny_tryCatch ?_)));obtain ⟨oT,hoT,hcT,n,hdT⟩:=(k.but nI rh.2).to hT;refine ao (lu (⟨oT,hoT,hcT⟩) ?_);refine ao (wpAny_seqItems hoT hdT (aG ?_));refine dz (wpAny_dictSet_pairs (gO _ _ _ t) (hD.elim λo x=>x.elim λes x=>x.elim λn x=>⟨o,es,n,(rh.2 _ Y2).trans x.1,x.2⟩:h₁.DictOf (strKind prog w) D kvs) (λh₂ NB NC=>aG ⟨fZ _ (by decide+kernel),?_⟩) (by rw[ae] at wo;exact ac (ak _ _) wo))
  simp only [stored_new hn] at NB;exact ih (s:={s with heap:=h₂,toks:=s.toks+1}) (PT.elim λo x=>⟨o,(NC.2 _ (jp Y2)).trans x.1,x.2⟩) NB ((k.but nI rh.2).but nD NC.2) ((by rw[<-List.tail_drop,hv];rfl:items.toList.drop (i+1)=vs).symm▸PR) ((ai ..).symm▸hn) ((ai ..).symm▸wo) λh' tk Y3 k'=>hQ h' tk ((ai .. :(kvs++[p])++ps=kvs++p::ps)▸Y3) k'
theorem vq{s:aI}{o:Obj}{m:Nat}{Q:Value->aI->Prop}(hh:A.handled=bc)(ho:s.heap.get? a=some o)(hc:o.cls= .type "list")(hd:o.data= .seq items m)(hn:o.dict=bc)
  (hp:dp (rP s.heap) items.toList ps) (hnd:(ps.map (·.1)).Nodup) (wo:ps.length<=fe) (hQ:∀h' tk,h'.DictOf (strKind prog w) s.heap.objs.size ps->vp s.heap h'->Q (.ref s.heap.objs.size) {s with heap:=h',toks:=tk}):
  aO (bS prog w) A (call (.type "dict") [.ref a]) Q E s:=by
 refine callType_codes (Q₁:=λobj s₁=>obj= .ref s.heap.objs.size/\s₁={s with heap:=s.heap.push {cls:=.type "dict",data:=.dict #[]}}) F.kt_called_dict (F.kt_typeCall_dict_1 _) F.entry_dict_init (kt_code_dict_new _ ⟨rfl,rfl⟩) ?_
 rintro obj s₁ ⟨rfl,rfl⟩
 have ID:(s.heap.push {cls:=.type "dict",data:=.dict #[]}).DictOf (strKind prog w) s.heap.objs.size []:=Hu s.heap;refine ⟨ID.typeIs,F.args_dict_init_2 _ _,?_⟩
 have uj:vp s.heap (s.heap.push {cls:=.type "dict",data:=.dict #[]}):=λb o e=>az _ e
 have nw:∀b,s.heap.objs.size<=b->s.heap.get? b=bc:=λb h=>none_of λo e=>old_ne (isSome_of e) h
 have nD:=nw _ (ax _)
 revert ID uj nD hQ
 generalize s.heap.objs.size=D at nw
 generalize s.heap.push {cls:=.type "dict",data:=.dict #[]}=H
 intro hQ ID uj nD;refine ao ?_;refine ao (wpAny_notOrdered_dict ID.typeIs ?_);refine aG ?_;refine ao (lu (⟨o,uj _ _ ho,hc⟩) ?_);refine ao (GD (uj _ _ ho) hc hd hn hh λh₂ ab7 e hx=>?_)
 have oq:vp H h₂:=hx.keeps;refine ao (sA (ao (mD (oq.to ⟨o,uj _ _ ho,hc,m,hd⟩) ?_)))
 dsimp only;have hit:(h₂.push {cls:=.type "list_iterator",data:=.fields #[.ref a,.int 0 0]}).IsListIter h₂.objs.size a 0:=⟨_,bC _ rfl,rfl,rfl⟩;have To:vp h₂ (h₂.push {cls:=.type "list_iterator",data:=.fields #[.ref a,.int 0 0]}):=λb o e=>az _ e
 obtain ⟨oD,es,n,hoD,rD⟩:=ID;refine aG ⟨fZ _ (by decide+kernel),?_⟩
 exact B2 (j:=0) nD (none_of λo e=>old_ne (isSome_of (oq _ _ (uj _ _ e))) (ax _)) (λq=>old_ne (isSome_of (oq _ _ hoD)) (aW q.symm)) (by exact hh) ⟨o,ho,hc,m,hd⟩ hit ⟨oD,es,n,To _ _ (oq _ _ hoD),rD⟩ (λb o e=>To _ _ (oq _ _ (uj _ _ e))) hp hnd wo λh' tk Y3 k'=>⟨rfl,hQ h' tk Y3 k'⟩
end
noncomputable def pairOf{α:Type}(t:List D)(f:Tx->D->Option α):Option α:=t.casesOn (motive:=λU=>Option α) bc λk t=>t.casesOn (motive:=λU=>Option α) bc λd t=>t.casesOn (motive:=λU=>Option α) (k.onStr (λk=>f k d) bc) λU U=>bc
noncomputable def wM(l:List D):Option (List (Tx×D)):=match l with
 |[]=>some []
 |x::r=>x.jz (λt=>pairOf t λk d=>(wM r).map ((k,d)::·)) bc
noncomputable def bDict(ls:List V):M V:=kB ls (λx=>x.c7 (λl=>sF (wM l) λps=>if (ps.map (·.1)).Nodup/\ps.length<=lim then M.ret (.dict ps) else M.no) M.no) M.no
theorem B3{α:Type}{t:List D}{f:Tx->D->Option α}{b:α}(h:pairOf t f=some b):∃k d,t=[.str k,d]/\f k d=some b:=by
 cases t with
 |nil=>cases h
 |cons k t=>cases t with
  |nil=>cases h
  |cons d t=>cases t with
   |nil=>cases k with
    |str k=>exact ⟨k,d,rfl,h⟩
    |_=>cases h
   |cons U J=>cases h
theorem B4{x:D}{r:List D}{ps:List (Tx×D)}(h:wM (x::r)=some ps):∃k d Bg,x= .tup [.str k,d]/\wM r=some Bg/\ps=(k,d)::Bg:=by
 cases x with
 |tup t=>
  refine cps λP9 k9=>?_
  obtain ⟨k,d,e,h⟩:=B3 h;obtain ⟨Bg,h1,h2⟩:=a_.mp h;refine k9 ?_;exact ⟨k,d,Bg,e▸rfl,h1,h2.symm⟩
 |_=>cases h
noncomputable abbrev vals(ps:List (Tx×D)):List (Tx×V):=ps.map λp=>(p.1,V.d p.2)
theorem DE(hk:Sub κ.B h):∀{ps:List (Tx×D)} {vs:List Value},wM l=some ps->fI κ.B vs l->∃kvs:List (Str×Value),dp (rP h) vs kvs/\yr κ kvs (vals ps):=by
 induction l with
 |nil=>exact λe r=>by cases e;exact ⟨[],r,rfl⟩
 |cons x l ih=>
  intro ps vs e r;refine cps λP9 k9=>?_
  obtain ⟨k,d,Bg,e1,e2,e3⟩:=B4 e;subst e1 e3;refine r.el λe a r=>?_
  obtain ⟨kvs,h1,h2⟩:=ih e2 r;refine a.el @λT o ws n a1 a2 a3 a4 a5 a6=>?_
  cases a6 with|mk b1 b2 b3=>
  refine b3.el λb4 b5 b6=>?_
  obtain ⟨t,b2⟩:=b2;refine k9 ?_;subst b1 b4 b2;rw[show _=[] from b6] at a4
  exact ⟨(S k,_)::kvs,.mk e (.mk a1 ⟨o,hk _ _ a2,a3,n,a4⟩) h1,.mk rfl ⟨rfl,b5⟩ h2⟩
theorem Lz:∀{es:List bh},Bl κ es (vals l)->F4 κ.P κ.B es l:=by
 induction l with
 |nil=>exact λh=>h
 |cons p l ih=>exact λh=>kJ.imp h (λU q=>by cases q with|mk a b c=>exact .mk a b c) λU q=>ih q
theorem PU:lE (.type "dict") bDict:=fun1 λz τ ρ σ s Q E v x n g=>n.one λκ st rv ht=>rv.hZ g (λl rv g=>by
 obtain ⟨ps,PR,g⟩:=Go.sF g;refine (Go.ite g).elim λhc g=>rv.el λe1 e2 e3 e4 e5 r=>?_
 obtain ⟨kvs,q1,q2⟩:=DE st.know PR r;subst e1;refine vq z.a.handled (st.know _ _ e2) e3 e4 (e5 trivial) q1 (q2.nodup (by rw[bR];exact hc.1)) (by rw[q2.length,af];exact fj hc.2) λh' tk hD hk=>?_
 obtain ⟨RN,n',g1,rk⟩:=ue st.P.P hD q2;refine (st.fresh z.ok (tk:=tk) hk (ax _) g1).elim λle st'=>?_
 exact g _ _ (.mk st' ⟨.mk rfl (st.E_ z.ok) (gz _ _ _) (F4.mono le.B (Lz rk)),τ.up le ht⟩)) aC
structure Fn where
 scope:fV
 names:List Str
 body:List Stmt
noncomputable def fnIn(K:Frag)(f:Addr):Option Fn:=(n4 K f).bind λfd=>if fd.closure.isEmpty then (jb fd.body).map λb=>⟨fd.scope,fd.params.args.map (·.arg),b⟩ else none
theorem B5{ns:List Str}:∀{vs:List Value},ns.Nodup->∀p∈ns.zip vs,(ns.zip vs).lookup p.1=some p.2:=by
 induction ns with
 |nil=>exact λU U h=>absurd h bu
 |cons n ns ih=>
  intro vs nd p h;cases vs with
  |nil=>exact absurd h bu
  |cons v vs=>
   obtain ⟨h1,h2⟩:=bQ.mp nd;rw[List.zip_cons_cons,cz];rcases aN.mp h with e|h'
   ·rw[e,beq_self_eq_true]
   ·rw[beq_eq_false_iff_ne.mpr λe:p.1=n=>h1 (e▸(pf (a:=p.1) (b:=p.2) h').1)]
    exact ih h2 p h'
theorem IE(sl:List (Str×Value)){ns:List Str}:∀{vs:List Value},vs.length=ns.length->(∀p∈ns.zip vs,sl.lookup p.1=some p.2)->ns.filterMap (λn=>(sl.lookup n).map (n,·))=ns.zip vs/\ns.filter (λn=>(sl.lookup n).isNone)=[]:=by
 induction ns with
 |nil=>exact λU U=>⟨rfl,rfl⟩
 |cons n ns ih=>
  intro vs hl h;cases vs with
  |nil=>cases hl
  |cons v vs=>
   refine (ih (oS hl) λp hp=>h p (.tail _ hp)).elim λi1 i2=>?_
   rw[List.filterMap_cons,List.filter_cons,(h (n,v) (.head _))];exact ⟨congrArg ((n,v)::·) i1,i2⟩
noncomputable def lit(q:Str)(p:Arguments)(k:Value):FuncData:={(default:FuncData) with qualname:=q,params:=p,defaults:=.none,kwdefaults:=k}
theorem IF{q:Str}{k:Value}{p:Arguments}{ns:List Str}{vals:List Value}(h1:p.posonlyargs=[])(h2:p.kwonlyargs=[])(h3:p.vararg=bc)(h4:p.kwarg=bc)(hn:p.args.map (·.arg)=ns)(hl:vals.length=ns.length)
  (e1:(ns.filter λn=>((ns.zip vals).lookup n).isNone)=[]) (e2:ns.filterMap (λn=>((ns.zip vals).lookup n).map (n,·))=ns.zip vals):ye (lit q p k) ⟨vals,[]⟩=pure (ns.zip vals):=by
 cases p with|mk p as r t u v w=>
 cases h1;cases h2;cases h3;cases h4;cases hn;refine (if_neg (c:=((decide (vals.length>(as.map (·.arg)).length)&&Option.isNone (bc:Option Arg))=true)) ?_).trans ?_
 ·rw[hl];simp
 ·refine (if_neg ?_).trans ?_
  ·dsimp only [lit,tF,vL,C3,dR];rw[rt,dR,Nat.sub_zero];show¬(!(List.filter _ (zD (as.map (·.arg)).length (as.map (·.arg)))).isEmpty)=true;rw[gZ];exact λh=>uD ((congrArg (λl:List Str=>!l.isEmpty) e1).symm.trans h)
  ·dsimp only [lit,C3,dR];rw[rt,List.zip_nil_right];show (pure (List.filterMap (λn=>(((as.map (·.arg)).zip vals).lookup n).map (n,·)) (as.map (·.arg)++[])):Sem (List (Str×Value)))=_
   rw[au];exact congrArg pure e2
theorem rQ(fd:FuncData)(vals:List Value)(h1:fd.params.posonlyargs=[])(h2:fd.params.kwonlyargs=[])(h3:fd.params.vararg=bc)(h4:fd.params.kwarg=bc)(h5:fd.defaults= .none)(hl:vals.length=(fd.params.args.map (·.arg)).length)(nd:(fd.params.args.map (·.arg)).Nodup):
  ye fd ⟨vals,[]⟩=pure ((fd.params.args.map (·.arg)).zip vals):=
 (show ye fd ⟨vals,[]⟩=ye {(default:FuncData) with qualname:=fd.qualname,params:=fd.params,defaults:=fd.defaults,kwdefaults:=fd.kwdefaults} ⟨vals,[]⟩ from rfl).trans (h5▸IF h1 h2 h3 h4 rfl hl (IE _ hl (B5 nd)).2 (IE _ hl (B5 nd)).1)
theorem jx(h:(a&&b)=true):a=true/\b=true:=aj.mp h
theorem GF(h:(!b)=true):b=false:=(fw b).mp h
theorem ot{K:Frag}{f:Addr}{fd:FuncData}(h:n4 K f=some fd):(∃o,K.lookup f=some o/\o.data= .func fd)/\KG fd=true/\codeIn K fd.code fd.qualname=true:=by
 refine cps λP9 k9=>?_
 refine (aS.mp h).elim λo z0=>z0.elim λh1 h2=>?_
 obtain ⟨vr,h3,h4⟩:=aS.mp h2;refine k9 ?_;cases hc:KG vr&&codeIn K vr.code vr.qualname<;>rw [hc] at h4
 ·cases h4
 ·cases h4;exact ⟨⟨o,h1,F2 h3⟩,jx hc⟩
structure GG(fd:FuncData):Prop where
 g:fd.globals=cv
 b:fd.builtins=sy
 k:fd.scope.kind= .function
 co:fd.scope.isCoroutine=false
 gen:fd.scope.isGenerator=false
 p1:fd.params.posonlyargs=[]
 p2:fd.params.kwonlyargs=[]
 p3:fd.params.vararg=bc
 p4:fd.params.kwarg=bc
 d:fd.defaults= .none
theorem gC(h:KG fd=true):GG fd:=
 have a1:=jx h;have a2:=jx a1.2;have a3:=jx a2.2;have a4:=jx a3.2;have a5:=jx a4.2;have a6:=jx a5.2;have a7:=jx a6.2;have a8:=jx a7.2;have a9:=jx a8.2
 ⟨of_decide_eq_true a1.1,of_decide_eq_true a2.1,of_decide_eq_true a3.1,GF a4.1,GF a5.1,nO.mp a6.1,nO.mp a7.1,ee.mp a8.1,ee.mp a9.1,by
  have q:=a9.2;cases e:fd.defaults<;>rw [e] at q<;>first|rfl|cases q⟩
noncomputable def ND(F:Fn):Bool:=decide F.names.Nodup&&(F.names.all (λx=>decide (F.scope.names.lookup x=some .local\/F.scope.names.lookup x=some .cell))&&(decide ((lB 0 F.scope.names []).map (·.1)).Nodup))
structure y6(F:Fn):Prop where
 nd:F.names.Nodup
 kind:∀x∈F.names,F.scope.names.lookup x=some .local\/F.scope.names.lookup x=some .cell
 nc:((lB 0 F.scope.names []).map (·.1)).Nodup
theorem B6(h:ND F=true):y6 F:=⟨of_decide_eq_true (jx h).1,λx hx=>of_decide_eq_true (aJ.mp (jx (jx h).2).1 x hx),of_decide_eq_true (jx (jx h).2).2⟩
theorem rR:∀{n:Nat} {acc:List (Str×Addr)},((x,rz)∈names\/(acc.lookup x).isSome=true)->((lB n names acc).lookup x).isSome=true:=by
 induction names with
 |nil=>exact λh=>h.elim (λh=>absurd h bu) id
 |cons p r ih=>
  intro n acc h;obtain ⟨y,k⟩:=p;unfold lB;cases hk:k==rz
  ·exact ih (h.imp (λh=>(aN.mp h).elim (λe=>by cases e;cases hk) id) id)
  ·refine ih ?_;rw[cz];cases e:x==y
   ·exact h.imp (λh=>(aN.mp h).elim (λq=>by cases q;rw[beq_self_eq_true] at e;cases e) id) id
   ·exact .inr rfl
theorem Fc{W:Wd}{A:dX}{s:aI}{R:jw->aI->Prop}{f:Addr}{fd:FuncData}{body:List Stmt}(ok:W.Ok)(keep:∀b o,W.base.get? b=some o->s.heap.get? b=some o)(uU:A.depth<fc)
  (hf:n4 W.K f=some fd) (hc:fd.closure=[]) (hb:jb fd.body=some body) {vals:List Value} (hl:vals.length=(fd.params.args.map (·.arg)).length) (hp:y6 ⟨fd.scope,fd.params.args.map (·.arg),body⟩)
  (h:∀s₁,InCallC s (cW fd s.heap.objs.size f).locals (bindL (cW fd s.heap.objs.size f).kindOf ((fd.params.args.map (·.arg)).zip vals) λU=>none) (cW fd s.heap.objs.size f).cells
    (bindC (cW fd s.heap.objs.size f).kindOf ((fd.params.args.map (·.arg)).zip vals) λU=>none) s₁->
   aO (bS W.prog W.w) (A.deeper (cW fd s.heap.objs.size f)) (C7 body (cW fd s.heap.objs.size f)) (λfl s'=>R (.ok (.ret (match fl with| .ret v=>v|_=>.none))) s')
    (λe s'=>aO (bS W.prog W.w) (A.deeper (cW fd s.heap.objs.size f)) (tU (cW fd s.heap.objs.size f) e) (λU ud=>R (.error e) ud) (λe' ud=>R (.error e') ud) s') s₁):
  ek (bS W.prog W.w) A (.call (.ref f) ⟨vals,[]⟩) R s:=by
 refine cps λP9 k9=>?_
 obtain ⟨⟨o,ho,LA⟩,hok,PV⟩:=ot hf;have P:=gC hok;have Tp:fd.body= .stmts body:=by
  cases q:fd.body<;>rw [q] at hb<;>first|(cases hb;rfl)|cases hb
 refine k9 ?_;exact codeAny_call_cells (fd:=fd) uU ((ok.q_.keeps keep) _ _ ho) LA (ok.top.keeps keep).nolimit (yf (ok.q_.keeps keep) PV) Tp (rQ fd vals P.p1 P.p2 P.p3 P.p4 P.d hl hp.nd) hc (λx hx=>(hp.kind x.1 (pf hx).1).imp id λh1=>⟨h1,rR (.inl (e9 h1))⟩) h P.co P.gen P.k
theorem B7(kd:Str->Option bZ)(x:Str):∀{m:Str->Option Value},x∉bs.map (·.1)->bindL kd bs m x=m x:=by
 induction bs with
 |nil=>exact λU=>rfl
 |cons p r ih=>
  intro m h;refine (ih λe=>h (.tail _ e)).trans ?_
  by_cases q:kd p.1=some .local
  ·rw[if_pos q];exact if_neg λe:x=p.1=>h (e▸ .head _)
  ·rw[if_neg q]
theorem B8(kd:Str->Option bZ)(x:Str):∀{m:Str->Option Value},x∉bs.map (·.1)->bindC kd bs m x=m x:=by
 induction bs with
 |nil=>exact λU=>rfl
 |cons p r ih=>
  intro m h;refine (ih λe=>h (.tail _ e)).trans ?_
  by_cases q:kd p.1=some .local
  ·rw[if_pos q]
  ·rw[if_neg q];exact if_neg λe:x=p.1=>h (e▸ .head _)
theorem LB(kd:Str->Option bZ):∀{m m':Str->Option Value},(bs.map (·.1)).Nodup->(x,v)∈bs->(kd x=some .local->bindL kd bs m x=some v)/\(kd x=some .cell->bindC kd bs m' x=some v):=by
 induction bs with
 |nil=>exact λU h=>absurd h bu
 |cons p r ih=>
  intro m m' nd h;refine (bQ.mp nd).elim λh1 h2=>?_
  rcases aN.mp h with e|h
  ·subst e;exact ⟨λhk=>(B7 kd x h1).trans ((if_pos hk)▸if_pos rfl),λhk=>(B8 kd x h1).trans (by rw[if_neg (hk▸nofun)];exact if_pos rfl)⟩
  ·exact ih h2 h
noncomputable def j9(vs:List V)(k:Nat):Env:=vs.map some++jr (k - vs.length) none
theorem B9{k i:Nat}(h:(j9 vs k)[i]? =some (some v)):vs[i]? =some v:=by
 unfold j9 at h;rcases oM i (vs.map some).length with hi|hi
 ·rw[dG hi,de] at h;obtain ⟨y,h1,h2⟩:=a_.mp h;cases h2;exact h1
 ·rw[aY hi] at h;cases (List.mem_replicate.mp (bM h)).2
structure Xy(c:Cx)(a:Addr):Prop where
 own:a∈c.own
 at_:c.fi.comp=false->a≠c.env.locals
open Classical in
noncomputable def gE(c:Cx)(κ:View)(fi:FI)(h:Heap)(dat:Data)(env:aV)(own:List Addr):Cx where
 W:=c.W
 fi:=fi
 F:=λa=>if Xy c a then h.get? a else c.F a
 outs:=bif c.fi.comp then c.outs else (c.env,dat)::c.outs
 env:=env
 own:=own
 hid:=c.own++c.hid
 low:=κ
structure Entry(fi:FI)(W:Wd)(s:aI)(h₁:Heap)(env:aV)(own:List Addr):Prop where
 scope:env.scope=fi.scope
 globals:env.globals=cv
 builtins:env.builtins=sy
 frame:env.frame=some env.locals
 keep:vp s.heap h₁
 loc:env.locals∈own
 new:∀a∈own,s.heap.objs.size<=a
 there:∀a∈own,(h₁.get? a).isSome
 nd:own.Nodup
 cellOwn:∀x a,env.cells.lookup x=some a->env.kindOf x=some .cell->a∈own
 cellIn:∀x a,env.cells.lookup x=some a->a∈own\/(W.base.get? a).isSome
 cellHas:∀x,env.kindOf x=some .cell->∃a,env.cells.lookup x=some a
 cellOff:∀x a,env.cells.lookup x=some a->a≠env.locals
 cellOne:∀x y a,env.cells.lookup x=some a->env.cells.lookup y=some a->x=y
 cells:∀x a,env.cells.lookup x=some a->∃v,h₁.IsCell a v
structure IG(fi:FI):Prop where
 kind:fi.scope.kind= .function
 comp:fi.comp=false
 nd:fi.vars.Nodup
structure y7(c:Cx)(h:Heap)(dat:Data):Prop where
 no:∀vs,dat≠ .fields vs
 at_:∃o,h.get? c.env.locals=some o/\o.data=dat
section
variable{P:Prop}
theorem y8(h:q∈(gE c κ fi h' dat env own).outs)(k:c.fi.comp=false->q=(c.env,dat)->P)(k':q∈c.outs->P):P:=by
 have h:q∈(bif c.fi.comp then c.outs else (c.env,dat)::c.outs):=h;cases e:c.fi.comp<;>rw [e] at h
 ·exact (aN.mp h).elim (k e) k'
 ·exact k' h
theorem B_(h:q∈c.outs):q∈(gE c κ fi h' dat env own).outs:=by
 show q∈(bif c.fi.comp then c.outs else (c.env,dat)::c.outs);cases c.fi.comp
 ·exact .tail _ h
 ·exact h
theorem ny(h:¬Xy c a):(gE c κ fi h' dat env own).F a=c.F a:=if_neg h
theorem wN(h:Xy c a):(gE c κ fi h' dat env own).F a=h'.get? a:=if_pos h
theorem jJ(st:St c κ ρ σ s)(e:c.F a=some o):(gE c κ fi h' dat env own).F a=some o:=(ny λu=>gr (st.priv a u.own).F e).trans e
theorem Fd(st:St c κ ρ σ s)(ok:c.Ok)(fo:IG fi)(X:Entry fi c.W s h₁ env own)(hd:y7 c s.heap dat):(gE c κ fi s.heap dat env own).Ok:=
 have old:∀{a},fP c κ a->a∉own:=λm e=>old_ne (st.lt m) (X.new _ e)
 {
  w:=ok.w,scope:=X.scope,kind:=fo.kind,globals:=X.globals,builtins:=X.builtins,frame:=λU=>X.frame,loc:=X.loc,cellOwn:=X.cellOwn,cellHas:=X.cellHas,cellOff:=X.cellOff,cellOne:=X.cellOne,vars:=fo.nd
  base:=λa o e=>jJ st (ok.base a o e)
  outs:=λq hq=>y8 hq (λhc e=>e▸⟨by show c.env.scope.kind≠_;rw[ok.scope,ok.kind];exact nofun,hd.no,c.env.locals,ok.frame hc,bj _ ok.loc,(ny λu=>u.at_ hc rfl).trans (st.priv _ ok.loc).F,old (.inr (.inr (.inl ok.loc)))⟩) λhq=>by
   obtain ⟨h1,h2,L,h3,h4,h5,h6⟩:=ok.outs q hq;exact ⟨h1,h2,L,h3,aU _ h4,(ny λu=>h6 u.own).trans h5,old (.inr (.inr (.inr (.inl h4))))⟩
  cellIn:=λx a h=>(X.cellIn x a h).imp id λh=>some_at h λo ho=>isSome_of (jJ st (ok.base a o ho))
  apart:=λa ha hm=>(bf.mp hm).elim (λh=>old (.inr (.inr (.inl h))) ha) λh=>old (.inr (.inr (.inr (.inl h)))) ha
  above:=ac (ac ok.above (cf (tY (st.priv _ ok.loc).at_))) (X.new _ X.loc)
  hid:=λa ha=>(bf.mp ha).elim (λh=>jH ok (st.priv a h).F) (ok.hid a)}
theorem St.IH(st:St c κ ρ σ s)(ok:c.Ok)(X:Entry fi c.W s h₁ env own)(hd:y7 c s.heap dat)(hv:fh (gE c κ fi s.heap dat env own) κ ρ' h₁)(hp:ρ'.length=fi.vars.length):St (gE c κ fi s.heap dat env own) κ ρ' σ {s with heap:=h₁,toks:=tk}:=
 have x:=st.grow ok X.keep
 {
  P:=⟨.refl κ,st.P.P⟩,rest:=st.rest,know:=x.know,there:=x.there,vars:=hv,cells:=X.cells,plen:=hp,len:=st.len,store:=x.store
  kept:=λa o e=>by
   by_cases hm:Xy c a
   ·exact X.keep _ _ ((wN (κ:=κ) (fi:=fi) hm).symm.trans e)
   ·exact x.kept a o ((ny hm).symm.trans e)
  outer:=λq hq=>y8 hq (λhc e=>⟨λL hL=>by
   subst e;obtain rfl:=aF ((ok.frame hc).symm.trans hL);exact hd.at_.elim λo h=>⟨o,X.keep _ _ h.1,h.2⟩⟩) (x.outer q)
  hid:=λa ha=>(bf.mp ha).elim (λh=>⟨(x.priv a h).B,λq=>fQ st h q rfl,(x.priv a h).at_⟩) (x.hid a)
  priv:=λa ha=>⟨⟨(ny λu=>old_ne (st.priv a u.own).at_ (X.new a ha)).trans (st.KO (X.new a ha)),st.F5 (X.new a ha)⟩,X.there a ha⟩
  cell:=λi as o h1 h2 h3 a ha=>⟨(ny λu=>fQ st u.own (dU h1 ha) rfl).trans (st.cell i as o h1 h2 h3 a ha).F,(st.cell i as o h1 h2 h3 a ha).B⟩
  nodup:=bz.mpr ⟨X.nd,(bz.mp st.nodup).2.1,λa ha b hb e=>old_ne (st.there b hb) (e▸X.new a ha)⟩}
theorem uk(st:St c κ ρ σ s)(ok:c.Ok)(hd:y7 c s.heap dat)(le:κ.le κ')(kept:Sub (gE c κ fi s.heap dat env own).F h')(outer:∀q∈(gE c κ fi s.heap dat env own).outs,ED q h'):
  fh c κ' ρ h'/\∀x a,c.env.cells.lookup x=some a->∃v,h'.IsCell a v:=by
 have ck:∀x a v,c.env.cells.lookup x=some a->s.heap.IsCell a v->h'.IsCell a v:=λx a v hx ⟨o,ho,hd⟩=>⟨o,(ok.cellIn x a hx).elim (λh=>kept a o ((wN ⟨h,λU=>ok.cellOff x a hx⟩).trans ho)) λh=>some_at h λo' e=>by
  cases (st.kept a o' e).symm.trans ho;exact kept a _ (jJ st e),hd⟩
 refine st.vars.el @λm hm S0=>⟨.mk (m:=m) ?_ λi x v hx hv=>?_,λx a ha=>(st.cells x a ha).elim λv hv=>⟨v,ck x a v ha hv⟩⟩
 ·refine hm.elim λo z0=>z0.elim λes z1=>z1.elim λep z2=>z2.elim λho r=>?_
  cases hc:c.fi.comp with
  |true=>exact ⟨o,es,ep,kept _ o ((wN ⟨ok.loc,λe=>by rw[hc] at e;cases e⟩).trans ho),r⟩
  |false=>
   obtain ⟨ady,Tq,y4⟩:=hd.at_;obtain rfl:=aF (Tq.symm.trans ho);exact ((outer (c.env,dat) (by show _∈(bif c.fi.comp then _ else _);rw[hc];exact .head _)).at_ c.env.locals (ok.frame hc)).elim λBq z0=>z0.elim λIr Iu=>⟨Bq,es,ep,Ir,Iu.trans (y4.symm.trans r.1),r.2⟩
 ·exact (S0 i x v hx hv).elim λrv z0=>z0.elim λBm hr=>⟨rv,Bm.imp id λ⟨q,a,ha,PX⟩=>⟨q,a,ha,ck x a _ ha PX⟩,RV.mono le _ hr⟩
theorem St.wO(st:St c κ ρ σ s)(ok:c.Ok)(hd:y7 c s.heap dat)(st':St (gE c κ fi s.heap dat env own) κ' ρ' σ' s'):St c κ' ρ σ' s':=
 have v:=uk st ok hd st'.P.le st'.kept st'.outer;have own:∀a∈c.own,EE κ' s'.heap a:=λa ha=>st'.hid a (bj _ ha)
 {
  P:=⟨st.P.le.trans st'.P.le,st'.P.P⟩,rest:=st'.rest,know:=st'.know,there:=st'.there,vars:=v.1,cells:=v.2,plen:=st.plen,len:=st'.len,store:=st'.store
  kept:=λa o e=>st'.kept a o (jJ st e)
  outer:=λq hq=>st'.outer q (B_ hq)
  hid:=λa ha=>st'.hid a (aU _ ha)
  priv:=λa ha=>⟨⟨(st.priv a ha).F,(own a ha).B⟩,(own a ha).at_⟩
  cell:=λi as o h1 h2 h3 a ha=>⟨none_of λo' e=>gr (st'.cell i as o h1 h2 h3 a ha).F (jJ st e),(st'.cell i as o h1 h2 h3 a ha).B⟩
  nodup:=bz.mpr ⟨(bz.mp st.nodup).1,(bz.mp st'.nodup).2.1,λa ha b hb e=>(own a ha).ι (e▸hb)⟩}
theorem n7.wO(st:St c κ ρ σ s)(ok:c.Ok)(hd:y7 c s.heap dat)(st':n7 (gE c κ fi s.heap dat env own) κ' ρ' e k s')(fly:yN (iY (gE c κ fi s.heap dat env own) κ') none s'.heap e k):n7 c κ' ρ e k s':=
 {
  P:=⟨st.P.le.trans st'.P.le,st'.P.P⟩,rest:=st'.rest,know:=st'.know,vars:=(uk st ok hd st'.P.le st'.kept st'.outer).1,cells:=(uk st ok hd st'.P.le st'.kept st'.outer).2
  kept:=λa o e=>st'.kept a o (jJ st e)
  outer:=λq hq=>st'.outer q (B_ hq)
  hid:=λa ha=>st'.hid a (aU _ ha)
  priv:=λa ha=>⟨(st.priv a ha).F,st'.hid a (bj _ ha)⟩
  there:=λa ha=>st'.there a (.inr (bf.mpr ha))
  fly:=(fly.up (av':=iY c κ') (λa h=>h.imp (λh=>some_at h λo ho=>isSome_of (jJ st ho)) λh=>h.imp id λh=>.inr (bf.mpr h)) λU U U e=>e).low}
end
structure MF where
 n:Nat
 k:Nat
 body:MS
noncomputable def fin(r:RS):Res V:=match r with
 | .stuck=>.stuck
 | .ok f _ σ=>Fl.casesOn (motive:=λU=>Res V) f (.ok (.d .none) σ) .stuck .stuck λv=>.ok v σ
 | .exc k _=>.exc k
noncomputable def dI(m:MF)(C:nj)(vs:List V):M V:=λσ=>if vs.length=m.n then fin (m.body C (j9 vs m.k) σ) else .stuck
structure II(F:Fn)(vars:List Str)(m:MF):Prop where
 fo:IG ⟨F.scope,vars,false⟩
 Kr:y6 F
 n:m.n=F.names.length
 k:m.k=vars.length
 pre:F.names<+:vars
 body:eh ⟨F.scope,vars,false⟩ F.body m.body
theorem fR.fin{r:RS}{K:V->Store->Prop}{X:Int->Prop}{c:Cx}{τ:cO}{Q:Pq Flow}{X':Int->Env->Prop}(g:Go (Internal.fin r) K X)(h1:∀ρ σ,K (.d .none) σ->∀s,dY c τ ρ σ s->Q .next s)(h2:∀x ρ σ,K x σ->∀v s,dY c (τ.v v x) ρ σ s->Q (.ret v) s)(h3:∀k ρ,X k->X' k ρ):fR r (Bd c τ Q) X':=by
 cases r with
 |stuck=>exact g
 |ok f ρ σ=>cases f with
  |next=>exact h1 ρ σ g
  |ret v=>exact h2 v ρ σ g
  |_=>exact g.elim
 |exc k ρ=>exact h3 k ρ g
section
variable{c:Cx}{n:Nat}{A:dX}{C:nj}{κ:View}{ρ:Env}{σ:Store}{s:aI}{F:Fn}{vars:List Str}{vS:List Value}{vs:List V}{f:Addr}{h₁:Heap}
theorem wQ{k:Nat}{env:aV}{c':Cx}(he:c'.env=env)(hfi:c'.fi=⟨F.scope,vars,false⟩)(pre:F.names<+:vars)(Kr:y6 F)(hl:vs.length=F.names.length)(N:env.scope=F.scope)(Nc:env.cells=lB (s.heap.objs.size+1) F.scope.names [])(r:o7 κ vS vs)
  (cell:∀n a,env.cells.lookup n=some a->h₁.IsCell a (bindC env.kindOf (F.names.zip vS) (λU=>none) n)):jd c' κ (j9 vs k) h₁ (bindL env.kindOf (F.names.zip vS) λU=>none):=λi x v hx hv=>by
 have hx:vars[i]? =some x:=by rw[hfi] at hx;exact hx
 obtain ⟨rv,Bm,hr⟩:=r.all.get i v (B9 hv);have hn:F.names[i]? =some x:=by
  obtain ⟨t,ht⟩:=pre;rw[<-ht,dG (hl▸(aL.mp (B9 hv)).1)] at hx;exact hx
 have b:=LB (m:=λU=>none) (m':=λU=>none) env.kindOf (by rw[List.map_fst_zip (aW (hl.symm.trans r.length.symm))];exact Kr.nd:((F.names.zip vS).map (·.1)).Nodup) (bM (ed.mpr ⟨hn,Bm⟩):(x,rv)∈F.names.zip vS)
 have kd:env.kindOf x=F.scope.names.lookup x:=by unfold Ey;rw[N]
 refine ⟨rv,?_,hr⟩;unfold rc;rw[he];rcases Kr.kind x (bM hn:x∈F.names) with h1|h1
 ·exact .inl ⟨kd.trans h1,b.1 (kd.trans h1)⟩
 ·have:=rR (n:=s.heap.objs.size+1) (acc:=[]) (.inl (e9 h1));rw[<-Nc] at this
  obtain ⟨a,ha⟩:=fH.mp this;exact .inr ⟨.inl (kd.trans h1),a,ha,b.2 (kd.trans h1)▸cell x a ha⟩
theorem wR{fd:FuncData}{W:Wd}{fi:FI}{m cm:Str->Option Value}{s₁:aI}(P:GG fd)(hs:fi.scope=fd.scope)(nc:((lB 0 fi.scope.names []).map (·.1)).Nodup)(X:InCallC s (cW fd s.heap.objs.size f).locals m (cW fd s.heap.objs.size f).cells cm s₁):
  Entry fi W s s₁.heap (cW fd s.heap.objs.size f) (s.heap.objs.size::(cW fd s.heap.objs.size f).cells.map (·.2)):=by
 have cellAt:∀p∈(cW fd s.heap.objs.size f).cells,(cW fd s.heap.objs.size f).cells.lookup p.1=some p.2:=λp hm=>by
  refine lookup_of_mem_nodup ?_ hm;show ((lB (s.heap.objs.size+1) fd.scope.names []).map (·.1)).Nodup;rw[<-hs];exact cellsFrom_names fi.scope.names 0 (s.heap.objs.size+1) [] [] rfl▸nc
 exact {
     scope:=hs.symm,globals:=P.g,builtins:=P.b,frame:=rfl,keep:=X.toInCall.keep,loc:=.head _
     new:=λa h=>(aN.mp h).elim (λe=>aW e.symm) λh=>by
      obtain ⟨p,hp,rfl⟩:=br.mp h;exact cf (X.above p.1 p.2 hp)
     there:=λa h=>(aN.mp h).elim (λe=>e▸sQ X.toInCall.ns) λh=>by
      obtain ⟨p,hp,rfl⟩:=br.mp h;exact (X.cell p.1 p.2 (cellAt p hp)).elim λo h=>isSome_of h.1
     nd:=bQ.mpr ⟨λhm=>by
      obtain ⟨p,hp,e⟩:=br.mp hm;exact iq s.heap.objs.size (e▸X.above p.1 p.2 hp),List.pairwise_map.mpr X.apart⟩
     cellOwn:=λx a h U=>(λh=>.tail _ (br.mpr ⟨_,e9 h,rfl⟩)) h
     cellIn:=λx a h=>.inl ((λh=>.tail _ (br.mpr ⟨_,e9 h,rfl⟩)) h)
     cellHas:=λx hx=>fH.mp (rR (n:=s.heap.objs.size+1) (acc:=[]) (.inl (e9 hx)))
     cellOff:=λx a h e=>iq _ (e▸X.above x a (e9 h))
     cellOne:=λx y a hx hy=>name_of_addr X.apart (e9 hx) (e9 hy)
     cells:=λx a ha=>⟨_,X.cell x a ha⟩}
theorem wU{K:Frag}(h:fnIn K f=some F):∃fd,n4 K f=some fd/\fd.closure=[]/\jb fd.body=some F.body/\F.scope=fd.scope/\F.names=fd.params.args.map (·.arg):=by
 refine cps λP9 k9=>?_
 obtain ⟨fd,h1,h2⟩:=aS.mp h;cases hc:fd.closure.isEmpty<;>rw [hc] at h2
 ·cases h2
 ·obtain ⟨b,h3,h4⟩:=a_.mp h2;cases h4;exact k9 ⟨fd,h1,nO.mp hc,h3,rfl,rfl⟩
theorem St.y9(st:St c κ ρ σ s):∃dat,y7 c s.heap dat:=by
 refine cps λP9 k9=>?_
 cases st.vars with|mk hm U=>
 obtain ⟨o,es,ep,ho,hd, -⟩:=hm;exact k9 ⟨o.data,⟨λvs e=>(by rw[hd] at e;cases e),o,ho,rfl⟩⟩
structure DF(c:Cx)(n:Nat)(A:dX):Prop where
 handled:A.handled=none
 guards:A.guards=some []
 frames:A.frames=some (if c.fi.comp then c.outs.map (·.1) else c.env::c.outs.map (·.1))
 depth:A.depth+4*n+5<=fc
 units:A.units+40*n+43<=ko
theorem Ko.NE(pJ:Ko c (n+1) A):DF c n A:=⟨pJ.handled,pJ.guards,pJ.frames,ac (ak _ 3) pJ.depth,ac (ak _ 37) pJ.units⟩
theorem DF.down(pJ:DF c n A){fi:FI}(hc:fi.comp=false){h:Heap}{dat:Data}{env:aV}{own:List Addr}:Ko (gE c κ fi h dat env own) n (A.deeper env)/\(A.deeper env).frames=some (env::(gE c κ fi h dat env own).outs.map (·.1)):=by
 have hf:(A.deeper env).frames=some (env::(gE c κ fi h dat env own).outs.map (·.1)):=by
  refine (qc pJ.frames).trans ?_;show some (env::if c.fi.comp=true then _ else _)=some (env::(bif c.fi.comp then c.outs else (c.env,dat)::c.outs).map (·.1))
  cases c.fi.comp<;>rfl
 refine ⟨⟨pJ.handled,pJ.guards,?_,?_,?_⟩,hf⟩
 ·show _=some (if fi.comp then _ else _)
  rw[hc];exact hf
 ·show A.depth+1+4*n+4<=_;rw[bD A.depth 1];exact pJ.depth
 ·show A.units+3+40*n+40<=_;rw[bD A.units 3];exact pJ.units
theorem y_{fi:FI}(z:Z fi){c:Cx}{ρ:Env}(hc:fi.comp=false)(b2:∀{κ' ρ' e k s'},n7 z.c κ' ρ' e k s'->yN (iY z.c κ') none s'.heap e k->n7 c κ' ρ e k s'){R:jw->aI->Prop}{k:Int}{v:Value}{ρ':Env}{s':aI}(h:KE c ρ (λv s=>R (.error v) s) k)(n:Bn z.c ρ' k v s'):aO z.M z.A (tU z.c.env v) (λU ud=>R (.error v) ud) (λe' ud=>R (.error e') ud) s':=by
 cases n with|mk e Ca=>
 rw[e];exact Lm Ca z.ok (z.nc hc) (z.Xx hc) λud Y4 fly=>h _ _ (.mk rfl (b2 Y4 fly))
theorem wV{fi:FI}(z:Z fi){c:Cx}{ρ:Env}(hc:fi.comp=false)(b2:∀{κ' ρ' e k s'},n7 z.c κ' ρ' e k s'->yN (iY z.c κ') none s'.heap e k->n7 c κ' ρ e k s'){R:jw->aI->Prop}(b1:∀{κ' ρ' σ' s'},St z.c κ' ρ' σ' s'->St c κ' ρ σ' s'){b:List Stmt}{m:MS}(hb:eh fi b m){τ:cO}{ρ':Env}{σ:Store}{s:aI}(N:dY z.c τ ρ' σ s)(g:Go (fin (m z.C ρ' σ)) (KV c τ ρ λv s=>R (.ok (.ret v)) s) (KE c ρ λv s=>R (.error v) s)):
  aO z.M z.A (C7 b z.c.env) (λfl s'=>R (.ok (.ret (match fl with| .ret v=>v|_=>.none))) s') (λe s'=>aO z.M z.A (tU z.c.env e) (λU ud=>R (.error e) ud) (λe' ud=>R (.error e') ud) s') s:=
 hb z N (fR.fin g (λρ' σ g s n=>n.el λa h=>g _ _ (.mk (b1 a) ⟨rfl,h⟩)) (λx ρ' σ g v s n=>n.el λa h=>g _ _ (.mk (b1 a) h)) λk ρ' g v s n=>y_ z hc b2 g n)
noncomputable def Runs(W:Wd)(n:Nat)(f:Addr)(run:List V->M V):Prop:=∀(c:Cx) (A:dX),c.W=W->c.Ok->DF c n A->∀{τ:cO} {ρ:Env} {σ:Store} {s:aI} {vS:List Value} {vs:List V} {R:jw->aI->Prop},dY c (τ.vs vS vs) ρ σ s->
 Go (run vs σ) (KV c τ ρ λv s=>R (.ok (.ret v)) s) (KE c ρ λv s=>R (.error v) s)->ek (bS c.W.prog c.W.w) A (.call (.ref f) ⟨vS,[]⟩) R s
theorem Runs.fn{W:Wd}{m:MF}(hC:rH W n C)(hf:fnIn W.K f=some F)(fk:II F vars m):Runs W n f (dI m C):=λc A hW ok pJ {τ ρ σ s vS vs R} N g=>by
 subst hW;refine cps λP9 k9=>?_
 obtain ⟨hl,g⟩:=Go.OW (p:=vs.length=m.n) g;obtain ⟨fd,g1,g2,g3,g4,g5⟩:=wU hf;cases N with|@mk κ st ht=>
 obtain ⟨r,ht⟩:=ht;have hln:=hl.trans fk.n;refine k9 ?_
 refine Fc ok.w (λb o e=>st.kept b o (ok.base b o e)) (bk (c8 (ac (ak _ _) (ak _ 4))) pJ.depth) g1 g2 g3 (by rw[r.length,hln,g5]) (by rw[<-g4,<-g5];exact fk.Kr:y6 ⟨fd.scope,fd.params.args.map (·.arg),F.body⟩) λs₁ X=>?_
 rw[<-g5] at X;obtain ⟨dat,hd⟩:=st.y9;obtain ⟨hp,tk,e⟩:=X.toInCall.same;have ok':=Fd (κ:=κ) st ok fk.fo (wR (W:=c.W) (fi:=⟨F.scope,vars,false⟩) (gC (ot g1).2.1) g4 fk.Kr.nc X) hd;have dn:=pJ.down (κ:=κ) (fi:=⟨F.scope,vars,false⟩) (h:=s.heap) (dat:=dat) (env:=cW fd s.heap.objs.size f) (own:=s.heap.objs.size::(cW fd s.heap.objs.size f).cells.map (·.2)) rfl
 subst e;have st':=St.IH (tk:=tk) st ok (wR (W:=c.W) (fi:=⟨F.scope,vars,false⟩) (gC (ot g1).2.1) g4 fk.Kr.nc X) hd (fh.mk X.toInCall.ns (wQ (c':=gE c κ ⟨F.scope,vars,false⟩ s.heap dat (cW fd s.heap.objs.size f) (s.heap.objs.size::(cW fd s.heap.objs.size f).cells.map (·.2))) (k:=m.k) rfl rfl fk.pre fk.Kr hln g4.symm (by rw[g4];rfl) r X.cell)) (by
   show (vs.map some++jr (m.k - vs.length) none).length=vars.length;rw[ae,af,pA,fk.k];exact fL (hln▸fk.pre.length_le))
 exact wV ⟨_,n,A.deeper (cW fd s.heap.objs.size f),C,rfl,ok',dn.1,hC⟩ rfl (λx y=>x.wO st ok hd y) (st.wO ok hd) fk.body (.mk st' ht) g
theorem Runs.call{c:Cx}{τ:cO}{Q E:Pq Value}{run:List V->M V}(h:Runs c.W n f run)(ok:c.Ok)(pJ:Ko c (n+1) A)(N:dY c (τ.vs vS vs) ρ σ s)(g:Go (run vs σ) (KV c τ ρ Q) (KE c ρ E)):aO (bS c.W.prog c.W.w) A (aM (.ref f) vS) Q E s:=
 gc (h _ _ rfl ok pJ.NE N g)
end
structure Ts(K:Frag)(cl:Nat):Prop where
 mk_:makesIn K (dq cl)=true
 init:gq K (.ref (dq cl)) "__init__"=some (some (.ref (v7 cl)))
 ty:m_ K (.ref (v7 cl))=some (.type "function")
theorem DH(h:cl<=2):cl∈[0,1,2]:=match cl,h with
 |0,_=>.head _
 |1,_=>.tail _ (.head _)
 |2,_=>.tail _ (.tail _ (.head _))
theorem KN.at{K:Frag}(k:KN K)(h:cl<=2):Ts K cl:=
 ⟨(jx (aJ.mp k.new cl (DH h))).1,eq_of_beq (jx (jx (aJ.mp k.new cl (DH h))).2).1,eq_of_beq (jx (jx (aJ.mp k.new cl (DH h))).2).2⟩
noncomputable def jG(v:V)(r:Res V):Res V:=v.jG r .stuck
noncomputable def LC(cl:Nat)(run:List V->M V)(vs:List V):M V:=λσ=>(run (.obj σ.length::vs) (σ++[.inst cl []])).bind λv σ'=>jG v (.ok (.obj σ.length) σ')
theorem GH{A:dX}{rest:List Value}:A.under (.builtin "type.__call__" ⟨.ref C::rest,[]⟩)={A with depth:=A.depth+1,units:=A.units+1}:=by
 rfl
theorem DF.new{n:Nat}(pJ:Ko c (n+1) A){C:Addr}:DF c n (A.under (.builtin "type.__call__" ⟨.ref C::rest,[]⟩)):=by
 rw[GH];exact ⟨pJ.handled,pJ.guards,pJ.frames,(by show A.depth+1+4*n+5<=_;rw[bD A.depth 1];exact ac (ak _ 2) pJ.depth),(by show A.units+1+40*n+43<=_;rw[bD A.units 1];exact ac (ak _ 36) pJ.units)⟩
theorem DI{c:Cx}{n:Nat}{A:dX}{τ:cO}{ρ:Env}{σ:Store}{s:aI}{cl:Nat}{vS:List Value}{vs:List V}{run:List V->M V}{Q E:Pq Value}(PX:cl<=2)(kn:KN c.W.K)(ok:c.Ok)(pJ:Ko c (n+1) A)(PY:Runs c.W n (v7 cl) run)(N:dY c (τ.vs vS vs) ρ σ s)
  (g:Go (LC cl run vs σ) (KV c τ ρ Q) (KE c ρ E)):aO (bS c.W.prog c.W.w) A (call (.ref (dq cl)) vS) Q E s:=by
 refine N.el @λκ st ht=>?_
 have X:c.W.K.In s.heap:=ok.w.q_.keeps λb o e=>st.kept b o (ok.base b o e)
 have le:=View.kZ κ [s.heap.objs.size+1,s.heap.objs.size];obtain ⟨hi,st1⟩:=st.EO (as:=[s.heap.objs.size+1,s.heap.objs.size]) (o:=.inst cl []) (tk:=s.toks) ok (λb o e=>az _ (az _ e)) (bQ.mpr ⟨λh=>jU _ (aA.mp h),bQ.mpr ⟨bu,d4⟩⟩)
  (λa ha=>(aN.mp ha).elim (λe=>e▸⟨bX _,isSome_of (dK (by rw[fT]) rfl)⟩) λha=>ey (p:=λa=>s.heap.objs.size<=a/\(((s.heap.push emptyDict).push (mC (dq cl) s.heap.objs.size)).get? a).isSome) ha ⟨ax _,isSome_of (az _ (dK rfl rfl))⟩)
  (.mk (es:=[]) (n:=0) rfl (dK (by rw[fT]) rfl) (az _ (dK rfl rfl)) rfl d4 λp hp=>absurd hp bu)
 obtain ⟨hh,gg,d,t,os⟩:=s;refine gc (make_core (makes_of X (kn.at PX).mk_) (lx X (kn.at PX).init) (λself=>bind_fn X self (kn.at PX).ty) (.inl rfl) ?_)
 refine PY _ _ rfl ok (DF.new pJ) (vs:=.obj σ.length::vs) (τ:=τ.v (.ref (hh.objs.size+1)) (.obj σ.length)) (.mk st1 ⟨kJ.mk rfl (.mk rfl hi) (ht.1.mono le),(.mk rfl hi),τ.up le ht.2⟩) (Go.seq g λv σ' g rv s n=>?_)
 cases n with|mk kK jB=>
 have hn:rv= .none/\KV c τ ρ Q (.obj σ.length) σ':=by
  cases v with
  |d x=>cases x with
   |none=>exact ⟨jB.1,g⟩
   |_=>exact g.elim
  |_=>exact g.elim
 exact ⟨hn.1,hn.2 _ _ (.mk kK jB.2)⟩
section
variable{f cc D C:Addr}
set_option tactic.hygienic true in
theorem IJ{K:Frag}(X:K.In h){D:Addr}(e:tN K D=some cd):∃o,h.get? D=some o/\o.data= .cls cd:=by
 unfold tN at e;refine cps λP9 k9=>?_
 split at e
 ·rename_i c d cd' sl ho;obtain rfl:=aF e;exact k9 ⟨_,X _ _ ho,rfl⟩
 ·cases e
theorem rT(ok:W.Ok)(kw:KW W){x L:Addr}{m:Str->Option Value}{p0 p1:Pos}{whole:Sem Value}(keep:∀b o,W.base.get? b=some o->s.heap.get? b=some o)
  (hf:n4 W.K f=some fd) (P:GG fd) (S:nh W.K fd cc D C) (rK:s.heap.Ns L m) (hm:m eo=some (.ref x)) (hx:s.heap.get? x=some ox) (hc:ox.cls= .ref C) (hn:∀c,ox.data≠ .cls c) (Y5:(attr==("__class__":Str))=false)
  (h:∀h',h'.get? s.heap.objs.size=some (gU D x C)->(∀y o,s.heap.get? y=some o->h'.get? y=some o)->Q (.ref s.heap.objs.size) {s with heap:=h'}):
  _root_.PySem.wpAt (bS W.prog W.w) A (.func body (fg fd L f)) (eW (.Call (.Name "super" p0) [] [] p1) attr (fg fd L f) whole) Q E s:=by
 refine cps λP9 k9=>(fH.mp S.cls).elim λcdD g5=>?_
 obtain ⟨⟨o,ho,LA⟩, -, -⟩:=ot hf;have X:W.K.In s.heap:=ok.q_.keeps keep;have T:=ok.top.keeps keep
 obtain ⟨oD,hD1,hD2⟩:=IJ X g5;obtain ⟨ar,har,Y6⟩:∃ar,(fd.params.posonlyargs++fd.params.args).head? =some ar/\ar.arg=eo:=by
  rw[P.p1];have g7:=S.head;cases q:fd.params.args with
  |nil=>rw [q] at g7;cases g7
  |cons a r=>rw [q] at g7;exact ⟨a,rfl,aF g7⟩
 obtain ⟨oc,e2,e3⟩:=a_.mp S.file.file;obtain ⟨ol,e4,e5⟩:=a_.mp S.cell;refine k9 ?_;refine ks_wpAt_super_base S.RJ S.clF Y5 rfl (X _ _ ho) LA har S.file.ref (X _ _ e2) (yn rfl e3) e3 kw.file kw.top ?_;refine ks_loadName_global P.k S.RJ (sC (by show s.heap.Ns fd.globals _;rw[P.g];exact T.g) (mg_none_of X T.g kw.RJ) (by show s.heap.Ns fd.builtins _;rw[P.b];exact T.b) ((T.builtins _ (by decide+kernel)).trans (show g_ "super"=some (.type "super") by kernel_rfl)) ⟨rfl,?_⟩)
 refine qX P.k S.clF (by show fd.closure.lookup _=_;rw[S.R5];rfl) ⟨_,X _ _ e4,e5⟩ ?_
 simp only [Y6];refine kq P.k S.self rK hm (ks_wpAny_isType_cls hD1 hD2 ⟨rfl,?_⟩);exact ks_wpAny_call_super hD1 hD2 hx hc hn (qq X S.mro) h
theorem IK(ok:W.Ok)(kw:KW W)(he:env=fg fd L f)(keep:∀b o,W.base.get? b=some o->s.heap.get? b=some o)
  (hf:n4 W.K f=some fd) (P:GG fd) (S:nh W.K fd cc D C) (rK:s.heap.Ns L m) (hm:m eo=some (.ref x)) (hx:s.heap.get? x=some ox) (hc:ox.cls= .ref C) (hn:∀c,ox.data≠ .cls c) (Y5:(attr==("__class__":Str))=false)
  (h:∀h',h'.get? s.heap.objs.size=some (gU D x C)->(∀y o,s.heap.get? y=some o->h'.get? y=some o)->Q (.ref s.heap.objs.size) {s with heap:=h'}):
  _root_.PySem.wpAt (bS W.prog W.w) A (.func body env) (eW (.Call (.Name "super" p0) [] [] p1) attr env whole) Q E s:=by
 subst he;exact rT ok kw keep hf P S rK hm hx hc hn Y5 h
theorem wW(ok:W.Ok)(kw:KW W)(keep:∀b o,W.base.get? b=some o->s.heap.get? b=some o)(Fe:s.heap.get? so=some (gU D x C))(GI:x≠C)
  (hm:eM W.K C D name=some (some (.ref f2))) (ht:m_ W.K (.ref f2)=some (.type "function")) (hn:(name==("__class__":Str))=false)
  (h:Q (.ref s.heap.objs.size,[]) {s with heap:=s.heap.push (hG (.ref f2) (.ref x)),toks:=s.toks+1}):aO (bS W.prog W.w) A (gj (.ref so) name pl) Q E s:=by
 refine cps λP9 k9=>?_
 have X:W.K.In s.heap:=ok.q_.keeps keep;obtain ⟨cd,hc,hm⟩:=aS.mp hm
 obtain ⟨of,hof,Y7⟩:=a_.mp (show (W.K.lookup f2).map (·.cls)=some (.type "function") from ht)
 refine k9 ?_;refine ks_wpAny_getMethod_super Fe (looks_opaque X kw.statics) (l₀:=cd.mro) ?_ rfl X hm (X _ _ hof) Y7 GI hn h;exact λA Q E s k q=>ao ((mE X hc) A _ E s k (aG q))
end
noncomputable def P0(base:List V->M V)(rest:MS)(C:nj)(i:Nat)(t:V):M V:=λσ=>O.eH σ[i]? (λc U=>if c=2 then (base [.obj i,t]).bind λU σ'=>fin (rest C (j9 [.obj i,t] 2) σ') else M.no) M.no σ
noncomputable def IL(base:List V->M V)(rest:MS)(C:nj)(vs:List V):M V:=oh vs (λo t=>o.jA (λi=>P0 base rest C i t) M.no) M.no
theorem ji(h:env.scope.kind= .function):vf env=false:=by unfold vf;rw[h];rfl
theorem yt(hl:(apos.endLine==pos.line)=true)(hs:es.all (λe=>!isStar e)=true)(hn:es.length<30):
  methodCall o name apos pos env ov (es.length+([]:List Keyword).length) (iV pos (d7 es env)) (nZ pos (ja [] env))=
   (do let (f,first)<-g9 [ov] (gj ov name (do return (<-qr o env).getD true));ku pos f first (iV pos (d7 es env)) []):=by
 have Tt:yg (es.length+([]:List Keyword).length) (iV pos (d7 es env)) (nZ pos (ja [] env))=true:=by
  have h1:=mK (pos:=pos) (env:=env) hs;unfold yg
  have h2:(iV pos (d7 es env)).all (λx=>!x.1)=true:=by
   simp only [List.all_eq_not_any_not];simp only [Bool.not_not];simp only [rA] at h1;rw[h1];rfl
  simp only [h2];exact decide_eq_true hn
 unfold methodCall;rw[Tt];simp only [(by unfold yJ;simp [hl]:yJ true o env apos pos=pure pos),(show nZ pos (ja [] env)=[] from rfl)]
 unfold calleeOf;simp only [if_true,pure_bind]
theorem nz(hl:(apos.endLine==pos.line)=true)(hs:es.all (λe=>!isStar e)=true)(hn:es.length<30):
  eval (.Call (.Attribute o name apos) es [] pos) env=(do
   let ov<-eW o name env (eval o env)
   f' apos.atName
   let (f,first)<-g9 [ov] (gj ov name (do return (<-qr o env).getD true))
   ku pos f first (iV pos (d7 es env)) []):=
 congrArg (eW o name env (eval o env)>>=·) (funext λU=>congrArg (f' apos.atName>>=·) (funext λU=>yt hl hs hn))
theorem Tu:(eo==eN)=false:=rfl
theorem pR{α:Type}{a b:Str}{x y:α}(h:(a==b)=false):[(a,x),(b,y)].reverse.lookup a=some x/\[(a,x),(b,y)].reverse.lookup b=some y:=
 ⟨by show [(b,y),(a,x)].lookup a=_;rw[cz,h];exact lz,lz⟩
section
noncomputable abbrev Aj(fd:FuncData):FI:=⟨fd.scope,[eo,eN],false⟩
theorem Ak{f cc D Cl:Addr}{h₀:Heap}(P:GG fd)(S:nh W.K fd cc D Cl)(X:W.K.In s.heap)(Y:W.K.In W.base)(rK:h₀.Ns s.heap.objs.size m)(nA:∀b o,s.heap.get? b=some o->h₀.get? b=some o):
  Entry (Aj fd) W s h₀ (fg fd s.heap.objs.size f) [s.heap.objs.size]:=by
 have Tw:∀y a,(fg fd s.heap.objs.size f).cells.lookup y=some a->y=ah "__class__"/\a=cc:=λy a h=>by
  have h:fd.closure.lookup y=some a:=h;rw[S.R5] at h
  obtain ⟨rfl,rfl⟩:=cS (aA.mp (e9 h));exact ⟨rfl,rfl⟩
 have noC:∀{y},(fg fd s.heap.objs.size f).kindOf y=some .cell->False:=λh=>of_decide_eq_true (aJ.mp S.De _ (e9 h)) rfl
 obtain ⟨ol,e4,e5⟩:=a_.mp S.cell;exact {
  scope:=rfl,globals:=P.g,builtins:=P.b,frame:=rfl,keep:=nA,loc:=.head _
  new:=λa ha=>aW (aA.mp ha).symm
  there:=λa ha=>aA.mp ha▸sQ rK
  nd:=bQ.mpr ⟨bu,d4⟩
  cellOwn:=λy a h hc=>(noC hc).elim
  cellIn:=λy a h=>.inr (by rw[(Tw y a h).2];exact isSome_of (Y _ _ e4))
  cellHas:=λy hc=>(noC hc).elim
  cellOff:=λy a h e=>iq _ (((Tw y a h).2.symm.trans e)▸cA (X _ _ e4))
  cellOne:=λy z a h h'=>(Tw y a h).1.trans (Tw z a h').1.symm
  cells:=λy a h=>by obtain ⟨-,rfl⟩:=Tw y a h;exact ⟨_,_,nA _ _ (X _ _ e4),e5⟩}
theorem Cb{f cc D Cl f2 L x:Addr}{fd:FuncData}(z:Z (Aj fd))(pJ:Ko z.c (n+1) z.A)(he:z.c.env=fg fd L f){c:Cx}{p0 p1 ap tp cp ep:Pos}{rest:List Stmt}{mr:MS}{base:List V->M V}(kw:KW z.c.W)(S:nh z.c.W.K fd cc D Cl)(P:GG fd)(hm:eM z.c.W.K Cl D "__init__"=some (some (.ref f2)))(ht:m_ z.c.W.K (.ref f2)=some (.type "function"))
  (Tz:gX z.c.W.K f2=true) (hf:n4 z.c.W.K f=some fd) (wX:(ap.endLine==cp.line)=true) (Xz:fd.scope.names.lookup eN=some .local)
  (zb:eh (Aj fd) rest mr) (IM:Runs z.c.W n f2 base) {τ:cO} {ρ:Env} (b2:∀{κ' ρ' e k s'},n7 z.c κ' ρ' e k s'->yN (iY z.c κ') none s'.heap e k->n7 c κ' ρ e k s') (b1:∀{κ' ρ' σ' s'},St z.c κ' ρ' σ' s'->St c κ' ρ σ' s')
  {κ:View} {σ:Store} {i:Nat} {t:V} {s:aI} {m:Str->Option Value} {ox:Obj} {R:jw->aI->Prop} (st:St z.c κ (j9 [.obj i,t] 2) σ s) (r1:RV κ (.ref x) (.obj i)) (Cc:τ.p κ) (rK:s.heap.Ns L m) (hx:m eo=some (.ref x)) (XC:s.heap.get? x=some ox) (hc:ox.cls= .ref Cl) (hn:∀c,ox.data≠ .cls c)
  (g:Go ((base [.obj i,t] σ).bind λU σ'=>fin (mr z.C (j9 [.obj i,t] 2) σ')) (KV c τ ρ λv s=>R (.ok (.ret v)) s) (KE c ρ λv s=>R (.error v) s)):
  _root_.PySem.wpAt z.M z.A (.func (.Expr (.Call (.Attribute (.Call (.Name "super" p0) [] [] p1) "__init__" ap) [.Name eN tp] [] cp) ep::rest) z.c.env) (C7 (.Expr (.Call (.Attribute (.Call (.Name "super" p0) [] [] p1) "__init__" ap) [.Name eN tp] [] cp) ep::rest) z.c.env) (λfl s'=>R (.ok (.ret (match fl with| .ret v=>v|_=>.none))) s')
   (λe s'=>aO z.M z.A (tU z.c.env e) (λU ud=>R (.error e) ud) (λe' ud=>R (.error e') ud) s') s:=by
 have keep:∀b o,z.c.W.base.get? b=some o->s.heap.get? b=some o:=λb o e=>st.kept b o (z.ok.base b o e)
 have GI:x≠Cl:=λe=>by
  refine cps λP9 k9=>?_
  obtain ⟨cd,Y8, -⟩:=aS.mp hm;obtain ⟨o,ho1,HL⟩:=IJ (z.ok.w.q_.keeps keep) Y8;refine k9 ?_;rw[<-e] at ho1;cases XC.symm.trans ho1;exact hn _ HL
 refine iX (n0 (l_ (pl:=do return (<-qr (.Call (.Name "super" p0) [] [] p1) z.c.env).getD true) ?_ (nz wX rfl (aa rfl))) (ji (by rw[he];exact P.k)))
 refine IK z.ok.w kw he keep hf P S rK hx XC hc hn (by decide+kernel) λh' Fe hk'=>?_
 refine wW (W:=z.c.W) z.ok.w kw (λb o e=>hk' _ _ (keep b o e)) Fe GI hm ht (by decide+kernel) ?_
 obtain ⟨TC,wA⟩:=(st.grow (h':=h') (tk:=s.toks) z.ok hk').fresh (h':=h'.push (hG (.ref f2) (.ref x))) (tk:=s.toks+1) z.ok (λb o e=>az _ e) (ax _) (dK rfl rfl:(h'.push (hG (.ref f2) (.ref x))).get? h'.objs.size=some (hG (.ref f2) (.ref x)))
 refine i9 (P:=λh=>MethP z.c.W.K h'.objs.size f2 (.ref x) h) rfl (λh X=>keeps_M Tz h X) (gQ ?_)
 refine (c5.cons (aD.loc (fi:=Aj fd) (i:=1) (x:=eN) (pos:=tp) rfl Tu Tu) c5.nil λU=>rfl) z (τ:=(τ.ge (κ.add h'.objs.size (hG (.ref f2) (.ref x)))).v (.ref x) (.obj i)) cp (.mk wA ⟨RV.mono TC (.obj i) r1,.refl _,τ.up TC Cc⟩) (show KL _ _ _ _ [t] σ from λvs YD n=>?_)
 refine cps λP9 k9=>?_
 refine n.el @λNF BK IP=>?_
 obtain ⟨rv,rx,TF,IP⟩:=IP;refine k9 ?_;have h4:=BK.know _ _ (TF.B _ _ (gz _ _ _));refine ⟨⟨h4,z.ok.w.q_.keeps λb o e=>BK.kept b o (z.ok.base b o e)⟩,gc (method_call h4 ?_)⟩
 refine IM z.c _ rfl z.ok pJ.NE (vs:=[.obj i,t]) (τ:=τ) (.mk BK ⟨kJ.mk rfl rx rv,IP⟩) (Go.mono (Go.seq g λU σ' g v' YW n=>?_) (λU U h=>h) λk h v s n=>y_ z rfl b2 h n)
 exact fM (wV z rfl b2 b1 zb n.drop g)
theorem Runs.DJ{f cc D Cl f2:Addr}{fd:FuncData}{p0 p1 ap tp cp ep:Pos}{rest:List Stmt}{mr:MS}{base:List V->M V}(kw:KW W)(S:nh W.K fd cc D Cl)(hm:eM W.K Cl D "__init__"=some (some (.ref f2)))(ht:m_ W.K (.ref f2)=some (.type "function"))
  (Tz:gX W.K f2=true) (hf:n4 W.K f=some fd) (DK:fd.params.args.map (·.arg)=[eo,eN]) (hCl:Cl=dq 2)
  (IQ:jb fd.body=some (.Expr (.Call (.Attribute (.Call (.Name "super" p0) [] [] p1) "__init__" ap) [.Name eN tp] [] cp) ep::rest)) (wX:(ap.endLine==cp.line)=true) (fo:IG (Aj fd)) (Xz:fd.scope.names.lookup eN=some .local)
  (zb:eh (Aj fd) rest mr) (hC:rH W (n+1) C) (IM:Runs W n f2 base):Runs W (n+1) f (IL base mr C):=λc A hW ok pJ {τ ρ σ s vS vs R} N g=>by
 subst hW;refine dY.oh (G:=λvS=>ek (bS c.W.prog c.W.w) A (.call (.ref f) ⟨vS,[]⟩) R s) N g (λv1 v2 o t N g=>?_) aC
 refine cps λP9 k9=>?_
 refine N.el @λκ st TG=>?_
 obtain ⟨r2,r1,Cc⟩:=TG;refine k9 ?_;refine RV.tZ r1 g (λi ro g=>?_) aC
 refine cps λP9 k9=>?_
 obtain ⟨YB,l,hσ,g⟩:=O.wg g;obtain ⟨PX,g⟩:=Go.ite g;refine k9 ?_;subst PX;refine st.EN (G:=λv=>jy κ.ι v i->ek (bS c.W.prog c.W.w) A (.call (.ref f) ⟨[v,v2],[]⟩) R s) hσ ro (λx dx es ne hi XC adF U U U r1=>?_) ro
 obtain ⟨⟨o,ho,LA⟩,hok,PV⟩:=ot hf;have P:=gC hok;have keep:∀b o,c.W.base.get? b=some o->s.heap.get? b=some o:=λb o e=>st.kept b o (ok.base b o e)
 have X:c.W.K.In s.heap:=ok.w.q_.keeps keep;have Tp:fd.body= .stmts (.Expr (.Call (.Attribute (.Call (.Name "super" p0) [] [] p1) "__init__" ap) [.Name eN tp] [] cp) ep::rest):=by
  cases q:fd.body<;>rw [q] at IQ<;>first|(cases IQ;rfl)|cases IQ
 have hbind:=rQ fd [.ref x,v2] P.p1 P.p2 P.p3 P.p4 P.d (by rw[DK];rfl) (by rw[DK];decide+kernel)
 rw[DK] at hbind;refine pI (fd:=fd) (binds:=[(eo,.ref x),(eN,v2)]) (bk (c8 (ac (ak _ _) (ak _ 4))) pJ.depth) (X _ _ ho) LA (ok.w.top.keeps keep).nolimit (yf X PV) Tp (.of_eq hbind) (λx hx=>of_decide_eq_true (aJ.mp S.De x hx))
  (λy hy=>(aN.mp hy).elim (λe=>e▸S.self) λhy=>aA.mp hy▸Xz) (λh₀ rK nA=>?_) P.co P.gen P.k
 obtain ⟨dat,hd⟩:=st.y9;have ent:Entry (Aj fd) c.W s h₀ (fg fd s.heap.objs.size f) [s.heap.objs.size]:=Ak P S X ok.w.q_ rK nA;have ok':=Fd (κ:=κ) st ok fo ent hd
 have dn:=pJ.down (κ:=κ) (fi:=Aj fd) (h:=s.heap) (dat:=dat) (env:=fg fd s.heap.objs.size f) (own:=[s.heap.objs.size]) rfl;have st':=St.IH (fi:=Aj fd) (ρ':=j9 [.obj i,t] 2) (tk:=s.toks+2) st ok ent hd (.mk rK λj y v hy hv=>by
  cases j with
  |zero=>cases hy;cases hv;exact ⟨_,.inl ⟨S.self,(pR (x:=dC x) (y:=v2) Tu).1⟩,r1⟩
  |succ j=>cases j with
   |zero=>cases hy;cases hv;exact ⟨_,.inl ⟨Xz,(pR (x:=dC x) (y:=v2) Tu).2⟩,r2⟩
   |succ j=>cases hy) rfl
 exact Cb ⟨_,_,A.deeper (fg fd s.heap.objs.size f),C,rfl,ok',dn.1,hC⟩ dn.1 rfl kw S P hm ht Tz hf wX Xz zb IM (λx y=>x.wO st ok hd y) (st.wO ok hd) st' r1 Cc rK (pR (x:=dC x) (y:=v2) Tu).1 (nA _ _ XC) (by rw[hCl]) (λU e=>by cases e) g
end
noncomputable abbrev GJ(cd:qM)(dd:Option Addr)(k0 k1 k2 k3 k5:Option Value):Obj:=excClassObj cd.name cd.qualname 81 cd.ns cd.bases Hm cd.hasDict cd.slotNames cd.subclasses cd.abstract cd.collection dd k0 k1 k2 k3 k5 "Exception.__new__"
section
variable{prog:lr}{w:va}{A:dX}{R:jw->aI->Prop}{h:Heap}{g:Array GenState}{d:PySem.Drawn}{t:Nat}{os:A9}{cd:qM}{dd:Option Addr}{k0 k1 k2 k3 k5:Option Value}
noncomputable abbrev wY(T:Addr):Obj:={cls:=.ref 81,data:=.fields #[.ref T,.none,.none,.none,.bool false,.none]}
theorem LD{M:pj}{E:Value->aI->Prop}{rest:List Value}{Q:Unit->aI->Prop}(hC:h.get? 81=some (GJ cd dd k0 k1 k2 k3 k5))(hq:Q () ⟨h,g,d,t,os⟩):aO M A (uO "Exception.__new__" ⟨.ref 81::rest,[]⟩) Q E ⟨h,g,d,t,os⟩:=
 wpAny_check_new_subU fm (bmB:=Hm) (by decide) .base hC hq
theorem TH{rest:List Value}(hC:h.get? 81=some (GJ cd dd k0 k1 k2 k3 k5))(hq:R (.ok (.ret (.ref (h.objs.size+1)))) ⟨(h.push {cls:=.type "tuple",data:=.seq rest.toArray}).push (wY h.objs.size),g,d,t,os⟩)(zb:rest.length<=fe):
  ek (bS prog w) A (.builtin "Exception.__new__" ⟨.ref 81::rest,[]⟩) R ⟨h,g,d,t,os⟩:=by
 have F:=fm;have hends:=F.ends
 have hcB:(dC 81::Hm).contains (.type "Exception")=true:=by decide
 have hcA:(dC 81::Hm).contains (.type "AttributeError")=false:=by decide
 have hcN:(dC 81::Hm).contains (.type "NameError")=false:=by decide
 refine codeAny_builtinAt F.entry ?_;unfold cY.«BaseException.__new__»;refine vM ?_;show PySem.wpAt _ _ _ (stack>>=_) _ _ _;refine vM (PySem.wpAt_stack λp below=>fM ?_)
 wp_walk
 refine fM ?_;rw[F.owner]
 repeat (first|with_reducible refine wpAny_madeHere_exc F.canon hC ?_|with_reducible refine gy hC ?_|(with_reducible refine kQ hC ?_;first|rw [hcB]|rw [hcA]|rw [hcN])|wp_step)
 show R _ _;rw[fT];exact hq
theorem P1{rest:List Value}{init:Value}(hC:h.get? 81=some (GJ cd dd k0 k1 k2 k3 k5))(call:gS (bS prog w) h (specialOf (.ref 81) "__call__") (some (.builtin "type.__call__")))(typ:gS (bS prog w) h (sE (.ref 81) (.type "type")) true)
  (hi:gS (bS prog w) h (yd (.ref 81) "__init__") (some init)) (hb:∀self,gS (bS prog w) h (bindSpecial init self) (init,[self])) (zb:rest.length<=fe)
  (hq:ek (bS prog w) (A.under (.builtin "type.__call__" ⟨.ref 81::rest,[]⟩)) (.call init ⟨.ref (h.objs.size+1)::rest,[]⟩) (InitBack (h.objs.size+1) R) ⟨(h.push {cls:=.type "tuple",data:=.seq rest.toArray}).push (wY h.objs.size),g,d,t,os⟩):
  ek (bS prog w) A (.call (.ref 81) ⟨rest,[]⟩) R ⟨h,g,d,t,os⟩:=by
 refine pk ?_;show aO _ _ (callAny (.ref 81) _) _ _ _;refine nd_load hC ?_;show aO _ _ (tG (.ref 81) _) _ _ _;unfold tG;refine ao (call.at ?_);dsimp only;rw[PySem.tc_bind];refine ao (aG (ao (aG ?_)));refine aG (a:=Fin.again (.call (.builtin "type.__call__") ⟨.ref 81::rest,[]⟩)) (qL rfl ?_);refine codeAny_call_builtin_at (fZ _ (by decide+kernel)) entry_typeCall (yh PySem.tc_kind PySem.tc_split typ (tc_args _ _ _) ?_)
 unfold cY.«type.__call__»;have hm:gS (bS prog w) h (mroOf (.ref 81)) (.ref 81::Hm):=((C4 (part:=none) hC).andThen .now).andThen .now;have made:gS (bS prog w) h (Bind.madeBy (.ref 81)) (some "Exception.__new__"):=λA Q E s k q=>by
  exact wpAny_madeBy_exc (k _ _ hC) q
 repeat (first|simp only [Hm,List.isEmpty_cons,su,if_false]|with_reducible refine gc ?_|lk)
 refine codeAny_call_builtin_code (fZ _ fm.quiet) (LD hC ?_);refine TH hC ?_ zb;have k:∀b o,h.get? b=some o->((h.push {cls:=.type "tuple",data:=.seq rest.toArray}).push (wY h.objs.size)).get? b=some o:=λb o e=>az _ (az _ e)
 have hx:((h.push {cls:=.type "tuple",data:=.seq rest.toArray}).push (wY h.objs.size)).get? (h.objs.size+1)=some (wY h.objs.size):=by heap_get
 have t1:gS (bS prog w) ((h.push {cls:=.type "tuple",data:=.seq rest.toArray}).push (wY h.objs.size)) (sD (.ref (h.objs.size+1))) (.ref 81):=(C4 hx).andThen .now;have s1:gS (bS prog w) ((h.push {cls:=.type "tuple",data:=.seq rest.toArray}).push (wY h.objs.size)) (isSubtype (.ref 81) (.ref 81)) true:=λA Q E s k' q=>by
  exact kQ (k' _ _ (k _ _ hC)) (by simpa using q)
 have i1:=hi.keeps k;have b1:=(hb (.ref (h.objs.size+1))).keeps k
 unfold sE callSpecial? specialOf
 repeat (first|with_reducible refine gc ?_|lk)
 refine codeAny_mono hq λr s' z=>?_
 rcases r with e|(v|_|_|_)<;>first|exact z|exact z.elim|skip
 obtain ⟨rfl,z⟩:=z;exact aG (aG z)
end
section
variable{prog:lr}{w:va}{A:dX}{R:jw->aI->Prop}{s:aI}{K:Frag}{x dx:Addr}{ox:Obj}{name:Str}{tk:Tok}{v:Value}
structure Y9(K:Frag):Prop where
 at_:tN K 81=some (vh K)
 mro:(vh K).mro= .ref 81::Hm
 dict:(vh K).hasDict=true
theorem s8(k:KX K):Y9 K:=by
 have e:tN K 81=some {name:=(vh K).name,bases:=(vh K).bases,mro:=.ref 81::Hm,ns:=(vh K).ns,qualname:=(vh K).qualname,hasDict:=(vh K).hasDict,slotNames:=(vh K).slotNames,subclasses:=(vh K).subclasses,abstract:=(vh K).abstract,collection:=(vh K).collection,hasDel:=false}:=by unfold tN;rw[k.cls]
 have d:=k.hasDict;have c:tN K 81=some (vh K):=by
  have:vh K=(tN K 81).getD default:=rfl;rw[this,e];rfl
 rw[c] at d;exact ⟨c,(congrArg (·.mro) (aF (c.symm.trans e))),d⟩
theorem IR(self:Value):refuseLoop self "__setattr__" (.ref 81::Hm)=pure ():=PySem.F.store_Exception.passes self
theorem NG(k:KX K)(X:K.In s.heap)(hx:s.heap.get? x=some ox)(hc:ox.cls= .ref 81)(hn:gq K (.ref 81) name=some none)
  (h:aO (bS prog w) A.in1 (storeInOwnDict (.ref x) (.ref 81) (.str name tk) name v false)
   (λfin s'=>match fin with| .done f=>R (.ok f) s'| .again c'=>c'.quiet=true/\ek (bS prog w) A c' R s') (λe s'=>R (.error e) s') s):
  ek (bS prog w) A (.call (.builtin "object.__setattr__") ⟨[.ref x,.str name tk,v],[]⟩) R s:=by
 have SF:=PySem.F.store_object;have ty:gS (bS prog w) s.heap (sD (.ref x)) (.ref 81):=by
  exact λA Q E s' kk q=>ao (gV (kk _ _ hx) (by rw[hc];exact aG q))
 refine qt SF.slot.plain SF.entry (@yh (bS prog w) _ _ s "object.__setattr__" "object" "__setattr__" (.ref x) [.str name tk,v] [] _ SF.kind SF.split (ty.andThen (qq X k.obj):gS (bS prog w) s.heap (sE (.ref x) (.type "object")) true) (SF.args (.ref x) (.str name tk) v) ?_);rw[osa_eq,refuse_eq];refine ao (ao (ty.here (ao (((mE X (s8 k).at_).andThen .now:gS (bS prog w) s.heap (mroOf (.ref 81)) (vh K).mro).here ?_))));rw[(s8 k).mro,IR];refine aG (ao (ty.here (ao ((lx X hn).here (ao (fG (a:=none) rfl ?_))))));exact h
set_option tactic.hygienic true in
theorem NH{es:List bh}{n:Nat}{Q:Fin->aI->Prop}{E:Value->aI->Prop}(D:s.heap.get? dx=some (dh es n))(hl:getL name es≠none)(hz:es.length<=1000)
  (h:∀h',h'.get? dx=some (dh (putL name (cZ w.params name) (.str name s.toks) v es) (putN name es n))->(∀b o,b≠dx->s.heap.get? b=some o->h'.get? b=some o)->Q (.done (.ret .none)) {s with heap:=h',toks:=s.toks+1}):
  aO (bS prog w) A (storeInDict dx (.str name tk) name v) Q E s:=by
 have D':=ff (Obj.putName name (cZ w.params name) (.str name s.toks) v) D (by rw[tT];rfl)
 rw[tT] at D';refine ao (aG (ao ?_));unfold nsSet;refine ao (ao (uM (aG (ao (tV (ao (gV D ?_)))))));have c:(!es.any (·.key.isStr name)&&es.any (·.refKey))=false:=by
  unfold getL at hl
  split at hl
  ·rename_i en he;rw[jT.mpr ⟨en,List.mem_of_find?_eq_some he,List.find?_some he⟩];rfl
  ·split at hl
   ·exact absurd rfl hl
   ·rename_i z;rw[uC] at z;rw[z,jk]
 have c':(!es.toArray.any (·.key.isStr name)&&es.toArray.any (·.refKey))=false:=by
  rw[<-uE,<-uE];exact c
 dsimp only;rw[aRefKeyMayBeTheName_at,c'];refine wpAny_updatePart D ?_;refine ao (wpAny_lookBehind D' (pastItsLine_dict ?_) ?_)
 ·have h1:(putL name (cZ w.params name) (.str name s.toks) v es).length<=es.length+1:=by
   clear D D' hl c c' h hz
   induction es with
   |nil=>exact ax _
   |cons e r ih=>
    unfold putL
    split
    ·exact bX _
    ·exact aw ih
  rw[aR,sizeLine_eq];exact ac h1 (ac (aw hz) (by decide))
 ·exact aG (h _ D' λb o hb e=>(hU _ _ _ _ hb).trans e)
end
section
variable{K:Frag}
theorem P2(k:KX K)(X:K.In s.heap)(hx:s.heap.get? x=some {cls:=.ref 81,data:=.fields vs})(hn:gq K (.ref 81) name=some none)
  (h:∀h' tk,h'.get? x=some {cls:=.ref 81,dict:=some s.heap.objs.size,data:=.fields vs}->h'.get? s.heap.objs.size=some (dh (putL name (cZ w.params name) (.str name tk) v []) (putN name [] 0))->
   (∀b o,b≠x->s.heap.get? b=some o->h'.get? b=some o)->Q () {s with heap:=h',toks:=tk+1}):aO (bS prog w) A (setAttr (.ref x) name v) Q E s:=by
 have m:=s8 k;refine zG X (ox:={cls:=.ref 81,data:=.fields vs}) (od:=none) ⟨hx,rfl,rfl,trivial⟩ k.set (NG k X hx rfl hn ?_)
 have Nq:x≠s.heap.objs.size:=bT (cA hx);refine ao (aG (ao (ao (gV hx (ao (mE X m.at_ _ _ _ _ (λU U e=>e) ?_))))))
 rw[m.dict];have Ff:(s.heap.push {cls:=.type "dict",data:=.dict #[]}).get? x=some {cls:=.ref 81,data:=.fields vs}:=az _ hx;refine ao (wpAny_alloc (ao (wpAny_update Ff (aG (a:=some s.heap.objs.size) ?_))))
 have hgd:((s.heap.push {cls:=.type "dict",data:=.dict #[]}).update x λo=>{o with dict:=some s.heap.objs.size}).get? s.heap.objs.size=some (dh [] 0):=
  (hU _ _ _ _ Nq.symm).trans (dK rfl rfl)
 have TJ:((s.heap.push {cls:=.type "dict",data:=.dict #[]}).update x λo=>{o with dict:=some s.heap.objs.size}).get? x=some {cls:=.ref 81,dict:=some s.heap.objs.size,data:=.fields vs}:=ff _ Ff rfl
 refine NH (s:={s with heap:=(s.heap.push {cls:=.type "dict",data:=.dict #[]}).update x λo=>{o with dict:=some s.heap.objs.size},toks:=s.toks+1}) hgd (by simp [getL]) (by simp) λh' e1 e2=>?_
 refine h h' (s.toks+1) ((e2 x _ Nq TJ)) e1 λb o hb e=>?_
 have Yw:b≠s.heap.objs.size:=bT (cA e);exact e2 b o Yw ((hU _ _ _ _ hb).trans (az _ e))
theorem P4(k:KX K)(X:K.In s.heap)(hx:s.heap.get? x=some {cls:=.ref 81,dict:=some dx,data:=.fields vs})(D:s.heap.get? dx=some (dh es n))(hl:getL name es≠none)(hz:es.length<=1000)(hn:gq K (.ref 81) name=some none)
  (h:∀h' tk,h'.get? dx=some (dh (putL name (cZ w.params name) (.str name tk) v es) (putN name es n))->
   (∀b o,b≠dx->s.heap.get? b=some o->h'.get? b=some o)->Q () {s with heap:=h',toks:=tk+1}):aO (bS prog w) A (setAttr (.ref x) name v) Q E s:=by
 have m:=s8 k;refine zG X (ox:={cls:=.ref 81,dict:=some dx,data:=.fields vs}) (od:=some (dh es n)) ⟨hx,rfl,rfl,D⟩ k.set (NG k X hx rfl hn ?_)
 refine ao (aG (ao (ao (gV hx (ao (mE X m.at_ _ _ _ _ (λU U e=>e) ?_))))))
 rw[m.dict];refine aG (a:=some dx) ?_;exact NH (s:={s with toks:=s.toks+1}) D hl hz λh' e1 e2=>h h' (s.toks+1) e1 e2
end
section
theorem TK{M:pj}{K:Frag}(k:KX K)(X:K.In s.heap){ox:Obj}(hx:s.heap.get? x=some ox)(hc:ox.cls= .ref 81){NI:Value}{Q:Unit->aI->Prop}(hq:Q () s):aO M A (uO "BaseException.__getattribute__" ⟨[.ref x,NI],[]⟩) Q E s:=by
 have ty:gS M s.heap (sD (.ref x)) (.ref 81):=λA Q E s' kk q=>ao (gV (kk _ _ hx) (by rw[hc];exact aG q))
 exact yh (i:="BaseException.__getattribute__") (owner:="BaseException") (n:="__getattribute__") (by decide+kernel) (by decide+kernel) (ty.andThen (qq X k.Yc)) (F.args_bexc_ga (.ref x) NI) hq
theorem LF{K:Frag}(k:KX K)(X:K.In s.heap){ox:Obj}{od:Option Obj}{name:Str}{expr:Bool}{v:Value}(I:InstAt s.heap x ox 81 od)(hf:findObj K 81 od name=some (.value v))(hh:nV v=true){Q:Value->aI->Prop}(h:Q v {s with toks:=s.toks+1}):
  aO (bS prog w) A (o5 (.ref x) name expr) Q E s:=by
 have hx:s.heap.get? x=some ox:=I.1;have hc:ox.cls= .ref 81:=I.cls
 have L0:=I.type (M:=bS prog w);have L1:=lx (M:=bS prog w) X k.ga
 have L2:=lx (M:=bS prog w) X k.Yb;have L3:=looks_find (M:=bS prog w) X I hf
 unfold o5 getAttrBy;refine ao (tV (dz (ao (L0.at (ao (L1.at ?_))))));show aO _ _ (kH _ _ _ _ _ _) _ _ _;unfold kH;refine ao (m:=hookBefore _) (L2.at ?_);refine ao (yK (dz ?_));have hx0:(expr&&onTheHeap (yD "BaseException.__getattribute__"))=false:=by cases expr<;>rfl
 unfold uP;rw[if_neg (by rw[hx0];simp)]
 unfold yi;refine ao (fG (oU.ga.bind (.ref x)) ?_);refine gc (qt oU.ga.plain F.entry_bexc_ga (TK (s:={s with toks:=s.toks+1}) k X hx hc ?_))
 unfold cY.«object.__getattribute__»;refine ao (fG (a:=(.ref x,[.str name s.toks])) (by first|rfl|kernel_rfl) (ao (fG (a:=name) (by first|rfl|kernel_rfl) (ao (L0.at (ao (L3.at ?_)))))))
 refine aG ?_;show aO _ _ (handedOut v) _ _ _;rw[handedOut_of hh];exact aG h
end
noncomputable abbrev wrapObj(x:Addr):Obj:={cls:=.type "method-wrapper",data:=.fields #[.builtin "Exception.__init__",.ref x]}
theorem zc:Slot "wrapper_descriptor" "__get__" "wrapper_descriptor.__get__":=
 .of (owner:="wrapper_descriptor") (n:="__get__") (by rw[vR,pH];kernel_rfl) (by decide+kernel) (by decide+kernel) (by decide+kernel)
  (by first|exact .inl (by decide+kernel)|exact .inr (by decide+kernel)) (by rw[isSubtype_type];kernel_rfl)
theorem DM:entryFor table "wrapper_descriptor.__get__"=some cY.«wrapper_descriptor.__get__»:=uN (by kernel_rfl)
theorem GK(a b c:Value):argsOk "wrapper_descriptor.__get__" ⟨[a,b,c],[]⟩:=by unfold argsOk;kernel_rfl
theorem LG:sD (.builtin "Exception.__init__")=pure (.type "wrapper_descriptor"):=by show builtinType _=_;rw[builtinType_eq_fast];kernel_rfl
section
variable{os:A9}
theorem IS{K:Frag}(k:KX K)(X:K.In h)(hx:h.get? x=some ox)(hc:ox.cls= .ref 81)
  (hq:Q (.done (.ret (.ref h.objs.size))) ⟨h.push (wrapObj x),g,d,t,os⟩):aO (bS prog w) A (cY.«wrapper_descriptor.__get__» ⟨[.builtin "Exception.__init__",.ref x,.ref 81],[]⟩) Q E ⟨h,g,d,t,os⟩:=by
 have sub:gS (bS prog w) h (sE (.ref x) (.type "Exception")) true:=by
  exact (show gS (bS prog w) h (sD (.ref x)) (.ref 81) from λA Q E s' kk q=>ao (gV (kk _ _ hx) (by rw[hc];exact aG q))).andThen (qq X k.exc)
 unfold cY.«wrapper_descriptor.__get__»;refine ao (fG (a:=(.builtin "Exception.__init__",some (.ref x),some (.ref 81))) (by first|rfl|kernel_rfl) ?_)
 dsimp only;refine ao ?_;refine ao (fG (a:=(ah "__init__",.type "Exception")) (by first|rfl|kernel_rfl) ?_)
 refine ao (sub.at ?_);refine aG (ao (df ?_));exact aG hq
theorem TL{K:Frag}(k:KX K)(X:K.In h){so D:Addr}{l₀ l:List Value}{tk:Tok}{Q:Fin->aI->Prop}{ox:Obj}(hx:h.get? x=some ox)(hc:ox.cls= .ref 81)
  (Fe:h.get? so=some (gU D x 81)) (hno:gS (bS prog w) h (opaqueClassAbove (.ref 81)) none)
  (hC:gS (bS prog w) h (mroOf (.ref 81)) l₀) (hl:(l₀.dropWhile (· != .ref D)).drop 1=l) (hf:alongIn K "__init__" l=some (some (.builtin "Exception.__init__"))) (GI:x≠81)
  (hq:Q (.done (.ret (.ref h.objs.size))) ⟨h.push (wrapObj x),g,d,t,os⟩):
  aO (bS prog w) A (cY.«super.__getattribute__» ⟨[.ref so,.str "__init__" tk],[]⟩) Q E ⟨h,g,d,t,os⟩:=by
 have hlk:=zc.lookup;have hT:(⟨h,g,d,t,os⟩:aI).TypeIs (.builtin "Exception.__init__") "wrapper_descriptor":=LG
 have Hn:(dC x==dC 81)=false:=by simp [GI]
 unfold cY.«super.__getattribute__»
 repeat (first
  |(with_reducible refine eb Fe (rfl:(gU D x 81).data= .fields #[.ref D,.ref x,.ref 81]) (rfl:(#[.ref D,.ref x,.ref 81]:Array Value)[0]? =some (.ref D)) ?_)|(with_reducible refine eb Fe (rfl:(gU D x 81).data= .fields #[.ref D,.ref x,.ref 81]) (rfl:(#[.ref D,.ref x,.ref 81]:Array Value)[1]? =some (.ref x)) ?_)|(with_reducible refine eb Fe (rfl:(gU D x 81).data= .fields #[.ref D,.ref x,.ref 81]) (rfl:(#[.ref D,.ref x,.ref 81]:Array Value)[2]? =some (.ref 81)) ?_)
  |(with_reducible refine ks_wpAny_notOpaque hno ?_)
  |(with_reducible refine gS.at hC ?_;rw[hl])
  |(refine ks_forIn_along X (λU U=>rfl) rfl ?_ hf)
  |(with_reducible refine nY zc hT DM ?_ (GK _ _ _))
  |(with_reducible refine IS k X hx hc ?_)
  |(with_reducible refine ⟨_,rfl,?_⟩)
  |(simp only [(by decide+kernel:((ah "__init__":Str)==("__class__":Str))=false),Hn,rA,su,if_false])
  |wp_step
  |dsimp only)
 all_goals exact hq
end
section
variable{os:A9}
theorem IT{M:pj}{ox:Obj}{dd:Option Addr}{Q:Unit->aI->Prop}(hC:h.get? 81=some (GJ cd dd k0 k1 k2 k3 k5))(hx:h.get? x=some ox)(hc:ox.cls= .ref 81)(hq:Q () ⟨h,g,d,t,os⟩):aO M A (checkBoundCall "Exception.__init__" ⟨[.ref x,what],[]⟩) Q E ⟨h,g,d,t,os⟩:=by
 repeat (first|(with_reducible refine gy hx ?_;rw[hc])|with_reducible refine gy hC ?_|wp_step)
 exact hq
theorem GL{p:Addr}{R:jw->aI->Prop}{dd:Option Addr}{cd:qM}{k0 k1 k2 k3 k5:Option Value}(hC:h.get? 81=some (GJ cd dd' k0 k1 k2 k3 k5))(hx:h.get? x=some {cls:=.ref 81,dict:=dd,data:=.fields (.ref T0::r).toArray})(ho:h.get? p=some (wrapObj x))
  (hq:∀h',h'.get? x=some {cls:=.ref 81,dict:=dd,data:=.fields (.ref h.objs.size::r).toArray}->(∀b o,b≠x->h.get? b=some o->h'.get? b=some o)->R (.ok (.ret .none)) ⟨h',g,d,t,os⟩):
  ek (bS prog w) A (.call (.ref p) ⟨[what],[]⟩) R ⟨h,g,d,t,os⟩:=by
 refine pk ?_;refine nd_load ho (ao (aG ?_));refine ao (IT hC hx rfl ?_);refine aG ⟨fZ _ (by decide+kernel),pn fm.initEntry ?_⟩
 wp_walk
 have Ff:(h.push {cls:=.type "tuple",data:=.seq [what].toArray}).get? x=some {cls:=.ref 81,dict:=dd,data:=.fields (.ref T0::r).toArray}:=az _ hx;refine hq _ ((ff _ Ff rfl).trans ?_) λb o hb e=>(hU _ _ _ _ hb).trans (az _ e)
 rfl
end
section
theorem LH(ok:W.Ok)(kw:KW W)(kx:KX W.K){so D:Addr}{pl:Sem Bool}(keep:∀b o,W.base.get? b=some o->s.heap.get? b=some o)(hx:s.heap.get? x=some ox)(hc:ox.cls= .ref 81)(GI:x≠81)
  (Fe:s.heap.get? so=some (gU D x 81)) (hm:eM W.K 81 D "__init__"=some (some (.builtin "Exception.__init__")))
  (h:Q (.ref s.heap.objs.size,[]) {s with heap:=s.heap.push (wrapObj x),toks:=s.toks+1}):aO (bS W.prog W.w) A (gj (.ref so) "__init__" pl) Q E s:=by
 have X:W.K.In s.heap:=ok.q_.keeps keep;obtain ⟨hh,g,d,t,os⟩:=s
 obtain ⟨cd,PV,hm⟩:=aS.mp hm;have hno:=looks_opaque (M:=bS W.prog W.w) (C:=81) X kw.statics;have hC:gS (bS W.prog W.w) hh (mroOf (.ref 81)) cd.mro:=λA Q E s k q=>ao ((mE X PV) A _ E s k (aG q))
 have hlk:=lP.lookup;have hcan:=F.ks_canon_super_ga
 have hT:∀t',(⟨hh,g,d,t',os⟩:aI).TypeIs (.ref so) "super":=λU=>⟨_,Fe,rfl⟩
 unfold gj;refine ao (wpAny_specialOf (hT _) hlk ?_);show aO _ _ (if (Manifest.canonical "super.__getattribute__" !="object.__getattribute__")=true then _ else _) _ _ _
 rw[if_pos hcan];unfold o5 getAttrBy;refine ao (ao (tV (dz (ao (lu (hT _) (ao (fG hlk ?_)))))));show aO _ _ (kH (.ref so) (.str "__init__" t) (.type "super") (.builtin "super.__getattribute__") true false) _ _ _;unfold kH hookBefore uP yi;refine ao (fG (show (if onTheHeap (.type "super") then yd (.type "super") "__getattr__" else pure none)=pure none from rfl) ?_)
 refine ao (yK (dz ?_));show aO _ _ (bindSpecial (.builtin "super.__getattribute__") (.ref so)>>=_) _ _ _;refine ao (fG (lP.bind _) ?_);refine gb (Q:=λv s'=>v= .ref hh.objs.size/\s'=⟨hh.push (wrapObj x),g,d,t+1,os⟩) (E:=λU U=>False)
  (nY lP (hT _) F.ks_entry_super_ga (TL kx X hx hc Fe hno hC rfl hm GI ⟨_,rfl,rfl,rfl⟩) (F.ks_gaArgs_super _ _)) (λv s' hv=>?_) λU U z=>z.elim
 obtain ⟨rfl,rfl⟩:=hv;exact aG (aG h)
end
noncomputable abbrev DN(dx:Option Addr)(T:Addr)(r:List Value):Obj:={cls:=.ref 81,dict:=dx,data:=.fields (.ref T::r).toArray}
section
variable{W:Wd}
theorem pS{y:Str}{m:Str->Option Value}{M:pj}(hk:env.scope.kind= .function)(hl:env.kindOf y=some .local)(hn:s.heap.Ns env.locals m)(hv:m y=some v)(h:Q v s)
  (hd:(y==("__debug__":Str))=false):aO M A (eval (.Name y p) env) Q E s:=wpAny_Name (kq hk hl hn hv h) hd
theorem set_tail{f L:Addr}{y:Str}{v:Value}{Q:Flow->aI->Prop}(hk:fd.scope.kind= .function)(hs:fd.scope.names.lookup eo=some .local)(hl:fd.scope.names.lookup y=some .local)(hd:(y==("__debug__":Str))=false)
  (rK:s.heap.Ns L m) (ms:m eo=some (.ref x)) (my:m y=some v) (h:∀{Q':Unit->aI->Prop},(∀s',Q .next s'->Q' () s')->aO (bS W.prog W.w) A (setAttr (.ref x) y v) Q' E s):
  _root_.PySem.wpAt (bS W.prog W.w) A (.func body (fg fd L f)) (C7 [.Assign [.Attribute (.Name eo sp) y ap] (.Name y yp) pos] (fg fd L f)) Q E s:=
 iX (ks_wpAt_Assign_Attr (fM (pS hk hl rK my (pS hk hs rK ms (h λU q=>fM (iK q)) (rfl)) hd)))
theorem Fg{f cc D:Addr}{fd:FuncData}{R:jw->aI->Prop}{body:List Stmt}{names:List Str}{vals:List Value}(ok:W.Ok)(keep:∀b o,W.base.get? b=some o->s.heap.get? b=some o)(uU:A.depth<fc)(S:nh W.K fd cc D 81)(hf:n4 W.K f=some fd)
  (hb:jb fd.body=some body) (hn:fd.params.args.map (·.arg)=names) (hl:vals.length=names.length) (nd:names.Nodup) (Y':∀y∈names,fd.scope.names.lookup y=some .local)
  (h:∀h₀ L m tk,s.heap.objs.size=L->(∀y,m y=(names.zip vals).reverse.lookup y)->h₀.Ns L m->(∀b o,s.heap.get? b=some o->h₀.get? b=some o)->
   _root_.PySem.wpAt (bS W.prog W.w) (A.deeper (fg fd L f)) (.func body (fg fd L f)) (C7 body (fg fd L f)) (λfl s'=>R (.ok (.ret (match fl with| .ret v=>v|_=>.none))) s')
    (λe s'=>aO (bS W.prog W.w) (A.deeper (fg fd L f)) (tU (fg fd L f) e) (λU ud=>R (.error e) ud) (λe' ud=>R (.error e') ud) s')
    {s with heap:=h₀,toks:=tk}):
  ek (bS W.prog W.w) A (.call (.ref f) ⟨vals,[]⟩) R s:=by
 obtain ⟨⟨o,ho,LA⟩,hok,PV⟩:=ot hf;have P:=gC hok;have Tp:fd.body= .stmts body:=by
  cases q:fd.body<;>rw [q] at hb<;>first|(cases hb;rfl)|cases hb
 subst hn;exact pI (fd:=fd) uU ((ok.q_.keeps keep) _ _ ho) LA (ok.top.keeps keep).nolimit (yf (ok.q_.keeps keep) PV) Tp (.of_eq (rQ fd vals P.p1 P.p2 P.p3 P.p4 P.d hl nd)) (λx hx=>of_decide_eq_true (aJ.mp S.De x hx)) (λy hy=>Y' y.1 (pf hy).1)
  (λh₀ rK hk=>h h₀ _ _ _ rfl (λU=>rfl) rK hk) P.co P.gen P.k
theorem LI{D cc:Addr}{fd:FuncData}{ps:List Pos}{R:jw->aI->Prop}{what:Value}{T:Addr}{r:List Value}(ok:W.Ok)(kw:KW W)(kx:KX W.K)(keep:∀b o,W.base.get? b=some o->s.heap.get? b=some o)(uU:A.depth<fc)
  (S:nh W.K fd cc D 81) (hf:n4 W.K 30=some fd) (hb:jb fd.body=some (v8 eg ps)) (hn:fd.params.args.map (·.arg)=[eo,eg]) (hl:fd.scope.names.lookup eg=some .local)
  (hm:eM W.K 81 D "__init__"=some (some (.builtin "Exception.__init__"))) (wX:((ps.getD 2 default).endLine==(ps.getD 4 default).line)=true)
  (hx:s.heap.get? x=some (DN none T r)) (RT:W.base.get? x=none)
  (h:∀h' dx T' tk K9,h'.get? x=some (DN (some dx) T' r)->h'.get? dx=some (dh (putL eg (cZ W.w.params eg) (.str eg K9) what []) (putN eg [] 0))->s.heap.objs.size<=dx->
   (∀b o,b≠x->s.heap.get? b=some o->h'.get? b=some o)->R (.ok (.ret .none)) {s with heap:=h',toks:=tk}):
  ek (bS W.prog W.w) A (.call (.ref 30) ⟨[.ref x,what],[]⟩) R s:=by
 have P:=gC (ot hf).2.1;have GI:∀a o,W.base.get? a=some o->a≠x:=λa o e q=>by subst q;rw[e] at RT;cases RT
 refine Fg ok keep uU S hf hb hn rfl (by decide+kernel) (λy hy=>?_) λh₀ L m tk hL RU rK nA=>?_
 ·rcases aN.mp hy with rfl|hy
  ·exact S.self
  ·cases aA.mp hy;exact hl
 have m1:m eo=some (.ref x):=(RU _).trans (pR (rfl)).1;have m2:m eg=some what:=(RU _).trans (pR (rfl)).2
 refine iX (n0 (l_ ?_ (nz wX rfl (aa rfl))) (ji P.k));refine rT ok kw (λb o e=>nA _ _ (keep b o e)) hf P S rK m1 (nA _ _ hx) rfl (λU e=>by cases e) (by decide+kernel) λh₁ Fe Cd=>?_
 have k1:∀b o,s.heap.get? b=some o->h₁.get? b=some o:=λb o e=>Cd _ _ (nA b o e)
 refine LH ok kw kx (λb o e=>k1 _ _ (keep b o e)) (k1 _ _ hx) rfl (GI _ _ (ok.q_ _ _ kx.cls)).symm Fe hm ?_
 refine i9 (P:=λh=>h.get? h₁.objs.size=some (wrapObj x)) rfl (λh' X=>⟨.machine,.inr (.inl rfl),(C4 X).andThen .now⟩) (gQ ?_)
 have k2:∀b o,s.heap.get? b=some o->(h₁.push (wrapObj x)).get? b=some o:=λb o e=>az _ (k1 b o e)
 have NJ:(h₁.push (wrapObj x)).Ns L m:=rK.keeps λb o e=>az _ (Cd _ _ e)
 have w2:(h₁.push (wrapObj x)).get? h₁.objs.size=some (wrapObj x):=dK rfl rfl
 generalize h₁.push (wrapObj x)=h₂ at k2 NJ w2⊢
 refine f_ (pS (env:=fg fd L 30) P.k hl NJ m2 (jv ⟨w2,gc ?_⟩) (by decide+kernel)) rfl
 refine GL (k2 _ _ (keep _ _ (ok.q_ _ _ kx.cls))) (k2 _ _ hx) w2 λP5 Fh wZ=>?_
 have XD:P5.Ns L m:=by
  obtain ⟨o,es,ep,e,r⟩:=NJ;exact ⟨o,es,ep,wZ _ _ (λq=>fy (cA hx) (hL.trans q)) e,r⟩
 refine set_tail P.k S.self hl (by decide+kernel) XD m1 m2 λu=>P2 kx (λa o e=>wZ a o (GI _ _ (ok.q_ _ _ e)) (k2 _ _ (keep _ _ (ok.q_ _ _ e)))) Fh kx.OO λY_ tk TM IU Fi=>u _ ?_
 obtain ⟨oL,U,U,Za,U⟩:=XD;exact h _ _ _ _ _ TM IU (hL▸cf (cA Za)) λb o hb e=>Fi b o hb (wZ b o hb (k2 b o e))
theorem GN{D cc D' cc':Addr}{fd vr:FuncData}{ps Bg:List Pos}{R:jw->aI->Prop}{what:Value}{k:Int}{tv:Tok}{T:Addr}{r:List Value}(ok:W.Ok)(kw:KW W)(kx:KX W.K)(keep:∀b o,W.base.get? b=some o->s.heap.get? b=some o)(uU:A.depth+1<fc)
  (S:nh W.K fd cc D 81) (hf:n4 W.K 59=some fd) (hb:jb fd.body=some (v8 d9 ps)) (hn:fd.params.args.map (·.arg)=[eo,eg,d9]) (hl:fd.scope.names.lookup eg=some .local) (TN:fd.scope.names.lookup d9=some .local)
  (hm:eM W.K 81 D "__init__"=some (some (.ref 30))) (ht:m_ W.K (.ref 30)=some (.type "function")) (Tz:gX W.K 30=true) (wX:((ps.getD 2 default).endLine==(ps.getD 4 default).line)=true)
  (S':nh W.K vr cc' D' 81) (hf':n4 W.K 30=some vr) (hb':jb vr.body=some (v8 eg Bg)) (XF:vr.params.args.map (·.arg)=[eo,eg]) (Ny:vr.scope.names.lookup eg=some .local)
  (hm':eM W.K 81 D' "__init__"=some (some (.builtin "Exception.__init__"))) (P6:((Bg.getD 2 default).endLine==(Bg.getD 4 default).line)=true)
  (hx:s.heap.get? x=some (DN none T r)) (RT:W.base.get? x=none)
  (h:∀h' dx T' tk es n t,h'.get? x=some (DN (some dx) T' r)->h'.get? dx=some (dh es n)->getL d9 es=some (some (.int k t))->s.heap.objs.size<=dx->
   (∀b o,b≠x->s.heap.get? b=some o->h'.get? b=some o)->R (.ok (.ret .none)) {s with heap:=h',toks:=tk}):
  ek (bS W.prog W.w) A (.call (.ref 59) ⟨[.ref x,what,.int k tv],[]⟩) R s:=by
 have P:=gC (ot hf).2.1;have GI:∀a o,W.base.get? a=some o->a≠x:=λa o e q=>by subst q;rw[e] at RT;cases RT
 have ne3:(eg==d9)=false:=rfl;refine Fg ok keep (Nat.lt_of_succ_lt uU) S hf hb hn rfl (by decide+kernel) (λy hy=>?_) λh₀ L m tk hL RU rK nA=>?_
 ·rcases aN.mp hy with rfl|hy
  ·exact S.self
  ·rcases aN.mp hy with rfl|hy
   ·exact hl
   ·cases aA.mp hy;exact TN
 have m1:m eo=some (.ref x):=(RU _).trans (by
  show u_ eo [(d9,.int k tv),(eg,what),(eo,dC x)]=_;rw[cz,(by decide+kernel:(eo==d9)=false),cz,(rfl:(eo==eg)=false)]
  exact lz)
 have m2:m eg=some what:=(RU _).trans (by
  show u_ eg [(d9,.int k tv),(eg,what),(eo,dC x)]=_;rw[cz,ne3];exact lz)
 have m3:m d9=some (.int k tv):=(RU _).trans lz;refine iX (n0 (l_ ?_ (nz wX rfl (aa rfl))) (ji P.k))
 refine rT ok kw (λb o e=>nA _ _ (keep b o e)) hf P S rK m1 (nA _ _ hx) rfl (λU e=>by cases e) (by decide+kernel) λh₁ Fe Cd=>?_
 have k1:∀b o,s.heap.get? b=some o->h₁.get? b=some o:=λb o e=>Cd _ _ (nA b o e)
 refine wW ok kw (λb o e=>k1 _ _ (keep b o e)) Fe (GI _ _ (ok.q_ _ _ kx.cls)).symm hm ht (by decide+kernel) ?_
 refine i9 (P:=λh=>MethP W.K h₁.objs.size 30 (.ref x) h) rfl (λh X=>keeps_M Tz h X) (gQ ?_)
 have k2:∀b o,s.heap.get? b=some o->(h₁.push (hG (.ref 30) (.ref x))).get? b=some o:=λb o e=>az _ (k1 b o e)
 have NJ:(h₁.push (hG (.ref 30) (.ref x))).Ns L m:=rK.keeps λb o e=>az _ (Cd _ _ e)
 have w2:(h₁.push (hG (.ref 30) (.ref x))).get? h₁.objs.size=some (hG (.ref 30) (.ref x)):=dK rfl rfl
 generalize h₁.push (hG (.ref 30) (.ref x))=h₂ at k2 NJ w2⊢
 refine f_ (pS (env:=fg fd L 59) P.k hl NJ m2 (jv ⟨⟨w2,ok.q_.keeps λb o e=>k2 _ _ (keep _ _ e)⟩,gc (method_call w2 ?_)⟩) (by decide+kernel)) rfl
 refine LI ok kw kx (λb o e=>k2 _ _ (keep _ _ e)) uU S' hf' hb' XF Ny hm' P6 (k2 _ _ hx) RT λP5 dx T' tk K9 Fh TO Yt wZ=>?_
 have XD:P5.Ns L m:=by
  obtain ⟨o,es,ep,e,r⟩:=NJ;exact ⟨o,es,ep,wZ _ _ (λq=>fy (cA hx) (hL.trans q)) e,r⟩
 have up:s.heap.objs.size<=dx:=by
  obtain ⟨oL,U,U,Za,U⟩:=NJ;exact hL▸ac (cf (cA Za)) Yt
 refine set_tail P.k S.self TN (by decide+kernel) XD m1 m3 λu=>P4 kx (λa o e=>wZ a o (GI _ _ (ok.q_ _ _ e)) (k2 _ _ (keep _ _ (ok.q_ _ _ e)))) Fh TO ?_ (aa rfl) kx.Hy λY_ NK IU Fi=>u _ (h _ _ _ _ _ _ tv (Fi _ _ (λq=>absurd (cA hx) (gJ.mpr (q▸up))) Fh) IU ?_ up λb o hb e=>Fi b o (λq=>absurd (cA e) (gJ.mpr (q▸up))) (wZ b o hb (k2 _ _ e)))
 ·exact λq=>nomatch (t9 _ _ _ ((ly _ _ _).trans ne3) rfl).symm.trans q
 ·have:putL d9 (cZ W.w.params d9) (.str d9 NK) (.int k tv) (putL eg (cZ W.w.params eg) (.str eg K9) what [])=⟨cZ W.w.params eg,.str eg K9,what⟩::[⟨cZ W.w.params d9,.str d9 NK,.int k tv⟩]:=by
   show (if ((Hj eg K9).isStr d9)=true then _ else _)=_
   rfl
  rw[this,t9 _ _ _ ((ly _ _ _).trans ne3) rfl];exact yU _ _ _ ((ly _ _ _).trans (by simp))
end
noncomputable def TP(ls:List V):M V:=oh ls (λx k=>x.onStr (λU=>k.fu (λk=>M.raise k) M.no) M.no) M.no
noncomputable def IV(m:MAs):MS:=λC ρ σ=>RS.nk ((m C ρ σ).bind TP) ρ λU U=>.stuck
section
theorem St.TQ(st:St c κ ρ σ s)(ok:c.Ok)(hx:h'.get? x=some (DN (some dx) T (.none::r)))(hd:h'.get? dx=some (dh es n))(hg:getL d9 es=some (some (.int k t)))
  (hxn:s.heap.objs.size<=x) (hdn:s.heap.objs.size<=dx) (keep:∀b o,s.heap.get? b=some o->h'.get? b=some o):n7 c κ ρ x k {s with heap:=h',toks:=tk}:=
 have g:=st.grow ok keep
 {
  P:=g.P,rest:=g.rest,kept:=g.kept,know:=g.know,outer:=g.outer,vars:=g.vars,cells:=g.cells
  hid:=λa ha=>(g.hid a ha).B
  priv:=λa ha=>(g.priv a ha).toFree
  there:=λa ha=>ha.elim (λha=>(g.priv a ha).at_) λha=>(g.hid a ha).at_
  fly:=.mk hx rfl rfl rfl hd hg ((λa ha h=>old_ne (st.lt (h.imp id λh=>h.imp id λh=>h.imp id .inl)) ha:∀a,s.heap.objs.size<=a->¬iY c κ a) x hxn) ((λa ha h=>old_ne (st.lt (h.imp id λh=>h.imp id λh=>h.imp id .inl)) ha:∀a,s.heap.objs.size<=a->¬iY c κ a) dx hdn) (cK 2 _) (.none rfl)}
theorem DO(ok:c.Ok)(room:A.depth+3<=fc)(st:St c κ ρ σ s)
  (h:∀e dx T r s',n7 c κ ρ e k s'->s'.heap.get? e=some (DN (some dx) T (.none::r))->R (.ok (.ret (.ref e))) s'):ek (bS c.W.prog c.W.w) A (.call (.ref 81) ⟨[what,.int k tv],[]⟩) R s:=by
 have kx:=ok.w.kw.kx;have ki:=ok.w.kw.ki
 have keep:∀b o,c.W.base.get? b=some o->s.heap.get? b=some o:=λb o e=>st.kept b o (ok.base b o e)
 have X:c.W.K.In s.heap:=ok.w.q_.keeps keep;refine cps λP9 k9=>?_
 obtain ⟨fd,ps,a1,a2,a3,a4,a5,a6⟩:=ki.f59;obtain ⟨vr,Bg,b1,b2,b3,b4,b5⟩:=ki.f30;have NL:∀b o,s.heap.get? b=some o->((s.heap.push {cls:=.type "tuple",data:=.seq [what,.int k tv].toArray}).push (wY s.heap.objs.size)).get? b=some o:=λb o e=>az _ (az _ e)
 have hx:((s.heap.push {cls:=.type "tuple",data:=.seq [what,.int k tv].toArray}).push (wY s.heap.objs.size)).get? (s.heap.objs.size+1)=some (wY s.heap.objs.size):=dK (by rw[fT]) rfl
 obtain ⟨hh,g,d,t,os⟩:=s;refine k9 ?_;refine P1 (X _ _ kx.cls) (looks_specialIn X kx.call) (looks_instIn X kx.typ) (lx X kx.init) (λself=>bind_fn X self kx.R6) (by size_fits) ?_
 refine GN ok.w ok.w.kw kx (λb o e=>NL b o (keep b o e)) (room)
  ((congrArg (·.getD default) a1:KH c.W.K 59=fd)▸(ki.s59):nh c.W.K fd 47 69 81) a1 a2 a3 a4 a5 ki.m59 ki.t30 ki.n30 a6 ((congrArg (·.getD default) b1:KH c.W.K 30=vr)▸(ki.s30):nh c.W.K vr 18 40 81) b1 b2 b3 b4 ki.m30 b5 hx (none_of λo q=>old_ne (isSome_of (keep _ _ q)) (bX _)) λh' dx T' tk es nn tt e1 e2 e3 e4 e5=>⟨rfl,?_⟩
 have up:hh.objs.size<=dx:=by
  have:((hh.push {cls:=.type "tuple",data:=.seq [what,.int k tv].toArray}).push (wY hh.objs.size)).objs.size<=dx:=e4;rw[fT,fT] at this;exact ac (ak _ 2) this
 exact h _ _ _ _ _ (st.TQ ok e1 e2 e3 (bX _) up λb o e=>e5 b o (λq=>old_ne (isSome_of e) (q▸bX _)) (NL b o e)) e1
theorem x_raise{M:pj}{env:aV}{x:Sem Value}{Q:Flow->aI->Prop}{cd:qM}{dd:Option Addr}{k0 k1 k2 k3 k5:Option Value}(hh:A.handled=bc)
  (h:aO M A x (λv s₁=>∃e dx T r,v= .ref e/\s₁.heap.get? 81=some (GJ cd dd k0 k1 k2 k3 k5)/\s₁.heap.get? e=some (DN dx T (.none::r))/\E (.ref e) s₁) E s):
  aO M A (raiseStmt env (some x) bc) Q E s:=by
 refine ao (gb h (λv s₁ h₁=>?_) λU U x=>x)
 obtain ⟨e,dx,T,r,rfl,hC,he,hE⟩:=h₁
 repeat (first|with_reducible refine gy he ?_|with_reducible refine gy hC ?_|(with_reducible refine kQ hC ?_;rw[(rfl:(dC 81::Hm).contains (.type "BaseException")=true)])|wp_step)
 exact wpAny_raiseNew_none hh hE
end
theorem cb.raise{np cp pos:Pos}{es:List Expr}(h:c5 fi (DA::es) m)(hx:fi.scope.names.lookup (ah "TextFault")=some .globalImplicit)(hp:d0 (DA::es)=true):
  cb fi (.Raise (some (.Call (.Name (ah "TextFault") np) (DA::es) [] cp)) none pos) (IV m):=λz τ ρ σ s Q E n g=>by
 refine ao (eT (x_raise (cd:=vh z.c.W.K) (dd:=(z.c.W.K.lookup 81).bind (·.dict)) (k0:=Km z.c.W.K 0) (k1:=Km z.c.W.K 1) (k2:=Km z.c.W.K 2) (k3:=Km z.c.W.K 3) (k5:=Km z.c.W.K 5) z.a.handled (ao ?_)));refine i_ rfl (z.glob n hx (z.fn (by decide+kernel)).1 (rfl) (EM z (z.fn (by decide+kernel:(ah "TextFault",81)∈o8)).2 h hp n (Go.seq (fR.nk g λU U g=>g) λls σ g vs s n=>n.oh (G:=λvs=>aO z.M z.A (aM (.ref 81) ([]++vs)) _ _ _) g (λv w x y n g=>n.two λκ st rv rw ht=>?_) aC)))
 exact RV.mc (G:=λv=>aO z.M z.A (aM (.ref 81) ([]++[v,w])) _ _ _) rv g (λl s7 g=>RV.n8 (G:=λw=>aO z.M z.A (aM (.ref 81) ([]++[.str (S l) s7,w])) _ _ _) rw g (λk tk g=>
  gc (DO z.ok (ac (ac (aB (ak _ _) 3) (bX _)) z.a.depth) st λe dx T r s' Ca he=>ao (eT (aG ⟨e,_,_,_,rfl,Ca.kept _ _ (z.ok.base _ _ (z.ok.w.q_ _ _ z.ok.w.kw.kx.cls)),he,g _ _ (.mk rfl Ca)⟩)))) aC) aC
noncomputable def P7(r:RS):RS:=match r with
 | .stuck=>.stuck
 | .ok f ρ σ=>.ok f ρ σ
 | .exc _ _=>.stuck
noncomputable def TS(m:MS):MS:=λC ρ σ=>P7 (m C ρ σ)
theorem fR.YU{K:KSt}(h:fR (P7 r) K X):fR r K X':=by
 cases r with
 |exc k ρ=>exact h.elim
 |_=>exact h
theorem Bd.mono(g:∀f s,Q f s->Q' f s)(h:Bd c τ Q f ρ σ):Bd c τ Q' f ρ σ:=by
 cases f with
 |ret v=>exact λv s n=>g _ _ (h v s n)
 |_=>exact λs n=>g _ _ (h s n)
theorem cb.TU(hb:eh fi b m):cb fi (.Try b (h₀::hs) [] [] pos) (TS m):=λz τ ρ σ s Q E n g=>
 uQ (hb z n ((fR.YU g).mono (λf ρ σ h=>h.mono λf s q=>by cases f<;>first|exact iK q|exact q) λU U h=>h))
noncomputable def TV(o:Option V):Bool:=o.elim true λv=>v.yj (λU=>true) false
noncomputable def ow(ρ:Env):Bool:=ρ.all TV
noncomputable def View.bare(κ:View):View:={κ with ι:=[]}
noncomputable def rU(c:Cx)(κ:View):List Addr:=κ.ι.flatten.filter λa=>(κ.B a).isNone&&(c.F a).isNone
noncomputable def Cx.gF(c:Cx)(κ:View)(h:Heap):Cx:=({c with low:=κ.bare}:Cx).lock (rU c κ) h
theorem Cx.Ok.low{c:Cx}(ok:c.Ok)(v:View):({c with low:=v}:Cx).Ok:={w:=ok.w,scope:=ok.scope,kind:=ok.kind,globals:=ok.globals,builtins:=ok.builtins,base:=ok.base,outs:=ok.outs,frame:=ok.frame,loc:=ok.loc,cellOwn:=ok.cellOwn,cellIn:=ok.cellIn,cellHas:=ok.cellHas,cellOff:=ok.cellOff,apart:=ok.apart,cellOne:=ok.cellOne,vars:=ok.vars,above:=ok.above,hid:=ok.hid}
section
theorem zd(h:ow ρ=true)(e1:c'.env=c.env)(e2:c'.fi=c.fi)(eB:κ'.B=κ.B)(v:jd c' κ' ρ h' m):jd c κ ρ h' m:=λi x w hx hv=>by
 obtain ⟨rv,h1,h2⟩:=v i x w (e2▸hx) hv;have hd:=aJ.mp h _ (bM hv);unfold rc at h1⊢
 rw[e1] at h1;cases w with
 |d y=>exact ⟨rv,h1,by show RD κ.B rv y;rw[<-eB];exact h2⟩
 |_=>cases hd
theorem lA:a∈rU c κ↔a∈κ.ι.flatten/\κ.B a=none/\c.F a=none:=by
 unfold rU;rw[d_,nP,ee,ee]
theorem St.NM(st:St c κ ρ σ s)(pl:ρ'.length=ρ.length)(vars:fh ({c with low:=κ.bare}:Cx) κ.bare ρ' s.heap):St ({c with low:=κ.bare}:Cx) κ.bare ρ' [] s/\Off ({c with low:=κ.bare}:Cx) κ.bare (rU c κ) s.heap:=
 ⟨{
   P:=⟨.refl _,st.P.P⟩,rest:=st.rest,kept:=st.kept,know:=st.know,outer:=st.outer,cells:=st.cells,plen:=pl.trans st.plen,len:=rfl,vars:=vars
   hid:=λa ha=>⟨(st.hid a ha).B,bu,(st.hid a ha).at_⟩
   priv:=λa ha=>⟨⟨(st.priv a ha).F,(st.priv a ha).B⟩,(st.priv a ha).at_⟩
   cell:=λi as o h1=>nomatch h1
   there:=λa ha=>absurd ha bu
   nodup:=(au c.own).symm▸(bz.mp st.nodup).1
   store:=λi o h1=>nomatch h1},
  ⟨λa ha m=>by
   have q:=lA.mp ha;rcases m with m|m|m|m|m
   ·exact gu q.2.2 m
   ·exact gu q.2.1 m
   ·exact fQ st m q.1 rfl
   ·exact (st.hid a m).ι q.1
   ·exact absurd m bu,λa ha=>st.there a (lA.mp ha).1⟩⟩
theorem St.bare(st:St c κ ρ σ s)(h:ow ρ=true):St ({c with low:=κ.bare}:Cx) κ.bare ρ [] s/\Off ({c with low:=κ.bare}:Cx) κ.bare (rU c κ) s.heap:=
 st.NM rfl (by cases st.vars with|mk hm hv=>exact .mk hm (zd (κ:=κ.bare) (c':=c) (κ':=κ) h rfl rfl rfl hv))
noncomputable def View.back(κ κ':View):View:={P:=κ.P,B:=κ'.B,ι:=κ.ι}
theorem Al(st:St c κ ρ σ s)(h:c.F a=some o):(c.gF κ s.heap).F a=some o:=(kC λhm=>gr (lA.mp hm).2.2 h).trans h
theorem Ce(st:St c κ ρ σ s)(hB:Le κ.B κ'.B)(ha:a∈κ.ι.flatten):iY (c.gF κ s.heap) κ' a:=by
 cases hb:κ.B a with
 |some o=>exact .inr (.inl (isSome_of (hB a o hb)))
 |none=>cases hf:c.F a with
  |some o=>exact .inl (isSome_of (Al st hf))
  |none=>exact .inr (.inr (.inr (bj _ (lA.mpr ⟨ha,hb,hf⟩))))
theorem St.back(st:St c κ ρ σ s)(P:Yd κ.bare c.W.w.params κ')(rest:s'.gens=c.W.g/\s'.os=c.W.o)(kept:Sub (c.gF κ s.heap).F s'.heap)(know:Sub κ'.B s'.heap)(outer:∀q∈c.outs,ED q s'.heap)(hid:∀a∈(c.gF κ s.heap).hid,κ'.B a=none)(own:∀a∈c.own,κ'.B a=none)
  (there:∀a,a∈c.own\/a∈(c.gF κ s.heap).hid->(s'.heap.get? a).isSome) (vars:fh c (κ.back κ') ρ' s'.heap) (cells:∀x a,c.env.cells.lookup x=some a->∃v,s'.heap.IsCell a v) (pl:ρ'.length=ρ.length):κ.le (κ.back κ')/\St c (κ.back κ') ρ' σ s':=⟨(⟨rfl,(P.le.B),yM.refl _⟩),{
  P:=⟨st.P.le.trans (⟨rfl,(P.le.B),yM.refl _⟩),st.P.P⟩,rest:=rest,know:=know,outer:=outer,cells:=cells,plen:=pl.trans st.plen,len:=st.len,nodup:=st.nodup,vars:=vars
  kept:=λa o h=>kept a o (Al st h)
  hid:=λa ha=>⟨hid a ((aU _:∀{a},a∈c.hid->a∈(c.gF κ s.heap).hid) ha),(st.hid a ha).ι,there a (.inr ((aU _:∀{a},a∈c.hid->a∈(c.gF κ s.heap).hid) ha))⟩
  priv:=λa ha=>⟨⟨(st.priv a ha).F,own a ha⟩,there a (.inl ha)⟩
  cell:=λi as o h1 h2 h3 a ha=>
   ⟨(st.cell i as o h1 h2 h3 a ha).F,hid a ((bj _) (lA.mpr ⟨dU h1 ha,(st.cell i as o h1 h2 h3 a ha).B,(st.cell i as o h1 h2 h3 a ha).F⟩))⟩
  there:=λa ha=>by
   rcases Ce st (P.le.B) ha with h|h|h
   ·exact some_at h λo e=>isSome_of (kept a o e)
   ·exact some_at h λo e=>isSome_of (know a o e)
   ·exact there a h
  store:=λi o h=>by
   refine (st.store i o h).el λha hr=>.mk ha ?_
   cases ho:o.isDead with
   |true=>cases o<;>first|trivial|cases ho
   |false=>exact RO.mono (⟨rfl,(P.le.B),yM.refl _⟩:κ.le (κ.back κ')) (λa hm x hx=>
     kept a x ((Ab (lA.mpr ⟨dU ha hm,(st.cell i _ o ha h ho a hm).B,(st.cell i _ o ha h ho a hm).F⟩)).trans hx)) o hr}⟩
theorem n7.settle(st:St c κ ρ σ s)(Ca:n7 (c.gF κ s.heap) κ' ρ' e k s')(fly:yN (iY (c.gF κ s.heap) κ') none s'.heap e k)(hd:ow ρ'=true)(hl:ρ'.length=ρ.length):∃P8,κ.le P8/\St c P8 ρ' σ s'/\RV P8 (.ref e) (.exc k):=by
 refine (st.back Ca.P Ca.rest Ca.kept Ca.know Ca.outer Ca.hid (λa ha=>(Ca.priv a ha).B) Ca.there (by cases Ca.vars with|mk hm hv=>exact .mk hm (zd (κ:=κ.back κ') (κ':=κ') hd rfl rfl rfl hv)) Ca.cells hl).elim λl w4=>?_
 have na:∀{a},¬iY (c.gF κ s.heap) κ' a->¬fP c (κ.back κ') a:=λ{a} n m=>by
  rcases m with m|m|m|m|m
  ·exact some_at m λo e=>n (.inl (isSome_of (Al st e)))
  ·exact n (.inr (.inl m))
  ·exact n (.inr (.inr (.inl m)))
  ·exact n (.inr (.inr (.inr (aU _ m))))
  ·exact n (Ce st l.B m)
 refine fly.el @λoe vs dx es n t h1 h2 h3 h4 h5 h6 a1 a2 U U=>?_
 have Zb:e≠dx:=λq=>by subst q;cases h1.symm.trans h5;cases h4
 exact ⟨_,l.trans ((w4.tell (na a1) h1).1.trans ((w4.tell (na a1) h1).2.tell (((⟨λa ha=>ey (p:=λa=>¬fP c (κ.back κ') a) ha (na a2),λa ha=>ey (p:=λa=>(s'.heap.get? a).isSome) ha (isSome_of h5)⟩:Off c (κ.back κ') [dx] s'.heap).tell λq=>Zb (aA.mp q)).no dx (.head _)) h5).1),((w4.tell (na a1) h1).2.tell (((⟨λa ha=>ey (p:=λa=>¬fP c (κ.back κ') a) ha (na a2),λa ha=>ey (p:=λa=>(s'.heap.get? a).isSome) ha (isSome_of h5)⟩:Off c (κ.back κ') [dx] s'.heap).tell λq=>Zb (aA.mp q)).no dx (.head _)) h5).2,.mk rfl (((w4.tell (na a1) h1).2.tell (((⟨λa ha=>ey (p:=λa=>¬fP c (κ.back κ') a) ha (na a2),λa ha=>ey (p:=λa=>(s'.heap.get? a).isSome) ha (isSome_of h5)⟩:Off c (κ.back κ') [dx] s'.heap).tell λq=>Zb (aA.mp q)).no dx (.head _)) h5).1.B _ _ (gz _ _ _)) h2 h3 h4 (gz _ _ _) h6⟩
end
noncomputable abbrev jj:Str:=ah "fault"
noncomputable abbrev P_(ps:List Pos):Expr:=
 .IfExp (.Compare (.Name d9 (ps.getD 0 default)) [.GtE] [.Constant (.int 0) 0 (ps.getD 1 default)] (ps.getD 2 default))
  (.Compare (.Attribute (.Name jj (ps.getD 3 default)) d9 (ps.getD 4 default)) [.Eq] [.Name d9 (ps.getD 5 default)] (ps.getD 6 default))
  (.Compare (.Constant (.int 0) 0 (ps.getD 7 default)) [.LtE,.LtE] [.Attribute (.Name jj (ps.getD 8 default)) d9 (ps.getD 9 default),.Call (.Name (ah "len") (ps.getD 10 default)) [.Name eN (ps.getD 11 default)] [] (ps.getD 12 default)] (ps.getD 13 default)) (ps.getD 14 default)
noncomputable def DP(k k0:Int)(l:Nat):Bool:=if k0≥0 then k==k0 else decide (0<=k)&&decide (k<=l)
noncomputable def Am(it is:Nat)(ρ:Env)(k:Int):Option Bool:=(ρ[it]?).join.elim bc λa=>(ρ[is]?).join.elim bc λb=>a.onStr (λt=>b.fu (λk0=>if t.length<=lim then some (DP k k0 t.length) else bc) bc) bc
noncomputable def DQ(it is:Nat)(ρ:Env)(σ:Store)(r:RS):RS:=match r with
 | .stuck=>.stuck
 | .ok _ _ _=>.stuck
 | .exc k ρ'=>if ow ρ'=true/\ρ'.length=ρ.length then (Am it is ρ' k).elim .stuck λb=>.ok (.ret (.d (.bool b))) (ρ.map λU=>bc) σ else .stuck
noncomputable def Ao(it is:Nat)(m:MS):MS:=λC ρ σ=>if ow ρ=true then DQ it is ρ σ (m C ρ []) else .stuck
structure Qa(it is:Nat)(ρ ρ':Env)(t:Tx)(k0:Int):Prop where
 data:ow ρ'=true
 len:ρ'.length=ρ.length
 text:ρ'[it]? =some (some (.d (.str t)))
 dV:ρ'[is]? =some (some (.d (.int k0)))
 room:t.length<=lim
theorem join_some{α:Type}{o:Option (Option α)}{a:α}(h:o.join=some a):o=some (some a):=by
 cases o with
 |none=>cases h
 |some o=>exact congrArg some h
theorem DR{α:Type}{x:V}{f:Tx->Option α}{b:α}(h:x.onStr f bc=some b):∃t,x= .d (.str t)/\f t=some b:=by
 cases x with
 |d x=>cases x with
  |str t=>exact ⟨t,rfl,h⟩
  |_=>exact nomatch h
 |_=>exact nomatch h
theorem DS{α:Type}{x:V}{f:Int->Option α}{b:α}(h:x.fu f bc=some b):∃t,x= .d (.int t)/\f t=some b:=by
 cases x with
 |d x=>cases x with
  |int t=>exact ⟨t,rfl,h⟩
  |_=>exact nomatch h
 |_=>exact nomatch h
theorem elim_some{α β:Type}{o:Option α}{f:α->Option β}{b:β}(h:o.elim bc f=some b):∃a,o=some a/\f a=some b:=by
 cases o with
 |none=>exact nomatch h
 |some a=>exact ⟨a,rfl,h⟩
theorem Cg{it is:Nat}{ρ:Env}{k:Int}{b:Bool}(h:Am it is ρ k=some b):∃t k0,ρ[it]? =some (some (.d (.str t)))/\ρ[is]? =some (some (.d (.int k0)))/\t.length<=lim/\b=DP k k0 t.length:=by
 refine cps λP9 k9=>?_
 obtain ⟨x,h1,g1⟩:=elim_some h;obtain ⟨y,h2,g2⟩:=elim_some g1;obtain ⟨t,e1,g3⟩:=DR g2;obtain ⟨k0,e2,g4⟩:=DS g3;subst e1 e2
 by_cases hl:t.length<=lim
 ·exact k9 ⟨t,k0,join_some h1,join_some h2,hl,(aF ((if_pos hl).symm.trans g4)).symm⟩
 ·exact nomatch (if_neg hl).symm.trans g4
theorem fR.Qb{it is:Nat}{σ:Store}{K K':KSt}(g:fR (DQ it is ρ σ r) K X)(h:∀k ρ' t k0,Qa it is ρ ρ' t k0->K (.ret (.d (.bool (DP k k0 t.length)))) (ρ.map λU=>bc) σ->X' k ρ'):fR r K' X':=by
 cases r with
 |stuck=>exact g
 |ok f ρ' σ'=>exact g.elim
 |exc k ρ'=>
  refine cps λP9 k9=>?_
  refine (fR.ite g).elim λhc g=>?_
  obtain ⟨b,hb,g⟩:=fR.H' g;obtain ⟨t,k0,h1,h2,h3,e⟩:=Cg hb;refine k9 ?_;exact h k ρ' t k0 ⟨hc.1,hc.2,h1,h2,h3⟩ (e▸g)
section
variable(z:Z fi)
theorem IW(st:St z.c κ ρ σ s)(hm:s.heap.Ns z.c.env.locals m)(l1:z.c.env.kindOf d9=some .local)(l2:z.c.env.kindOf eN=some .local)(l3:z.c.env.kindOf jj=some .local)
  (v1:m d9=some (.int k0 u0)) (v2:m eN=some (.str (S t) u1)) (v3:m jj=some e) (hl:t.length<=lim) (re:RV κ e (.exc k)) (hx:fi.scope.names.lookup (ah "len")=some .globalImplicit)
  (h:∀tk,Q (.bool (DP k k0 t.length)) {s with toks:=tk}):aO z.M AM (eval (P_ ps) z.c.env) Q E s:=by
 have nm:∀{x:Str} {v:Value} {p:Pos} {tk:Tok} {Q:Pq Value},z.c.env.kindOf x=some .local->m x=some v->(x==("__debug__":Str))=false->Q v {s with toks:=tk}->aO z.M AM (eval (.Name x p) z.c.env) Q E {s with toks:=tk}:=
  λh1 h2 h3 h4=>pS (s:={s with toks:=_}) z.kind h1 hm h2 h4 h3
 have att:∀{p p':Pos} {tk:Tok} {Q:Pq Value},(∀tk u,Q (.int k u) {s with toks:=tk})->aO z.M AM (eval (.Attribute (.Name jj p) d9 p') z.c.env) Q E {s with toks:=tk}:=λ{p p' tk Q} hq=>by
  refine x_ (nm l3 v3 (by decide+kernel) ?_) (by with_unfolding_all rfl)
  cases re with|@mk e dx oe vs es n t' e0 e1 e2 e3 e4 e5 e6=>
  subst e0;have kx:=z.ok.w.kw.kx;refine LF (s:={s with toks:=tk}) kx (z.q_ (st.tok tk)) (od:=some (dh es n)) ⟨st.know _ _ e1,e2,?_,?_⟩ (findObj_own (od:=dh es n) kx.OP kx.Hy rfl e6) rfl (hq _ _)
  ·unfold notCls;rw[e4]
  ·rw[e3];exact st.know _ _ e5
 refine IfExp_ (pG (nm (tk:=s.toks) l1 v1 (by decide+kernel) (l7 (ge_int (dN ?_)))) rfl)
 unfold DP at h
 by_cases hc:k0≥0
 ·rw[decide_eq_true hc];rw[if_pos hc] at h;exact x6 (att λtk u=>nm l1 v1 (by decide+kernel) (eq_int (h tk))) rfl
 ·rw[decide_eq_false hc];rw[if_neg hc] at h;refine yI (l7 (chain_link (att λtk u=>le_int (dN ?_)))) (by with_unfolding_all rfl)
  by_cases h0:0<=k
  ·rw[decide_eq_true h0] at h⊢;refine chain_last (i_ rfl (z.bare (τ:=.nil) (.mk (st.tok _) trivial) hx (by decide+kernel) (v:=.builtin "len") (by kernel_rfl) (by decide+kernel) (by decide+kernel) ?_))
   refine i9 (P:=λU=>True) rfl (λh U=>⟨.machine,.inr (.inl rfl),kY (f:=.builtin "len") nofun h⟩) (gQ ?_)
   refine f_ (nm l2 v2 (by decide+kernel) (jv ⟨trivial,P.len_str (by rw[sG];exact se.mpr (zM hl)) ?_⟩)) rfl
   rw[sG];exact le_int (h _)
  ·rw[decide_eq_false h0] at h⊢;exact h _
end
theorem rc.loc(hk:c.env.kindOf x=some .local)(v:rc c h m x rv):m x=some rv:=by
 refine cps λP9 k9=>?_
 rcases v with ⟨-,v⟩|⟨v, -⟩
 ·exact k9 v
 ·rw[hk] at v;rcases v with v|v<;>cases v
theorem cb.Qc{b:List Stmt}{it is XG:Nat}{np rp hp pos:Pos}(hc:fi.comp=false)(hb:eh fi b m)(hT:fi.vars[it]? =some eN)(hTk:fi.scope.names.lookup eN=some .local)
  (hS:fi.vars[is]? =some d9) (hSk:fi.scope.names.lookup d9=some .local) (hF:fi.vars[XG]? =some jj) (hFk:fi.scope.names.lookup jj=some .local)
  (hx:fi.scope.names.lookup (ah "TextFault")=some .globalImplicit) (hlen:fi.scope.names.lookup (ah "len")=some .globalImplicit):
  cb fi (.Try b [.ExceptHandler (some (.Name (ah "TextFault") np)) (some jj) [.Return (some (P_ ps)) rp] hp] [] [] pos) (Ao it is m):=λz τ ρ σ s Q E n g=>by
 refine cps λP9 k9=>?_
 refine (fR.ite g).elim λZc g=>?_
 refine n.el @λκ st Be=>?_
 refine k9 ?_;have XH:(z.c.gF κ s.heap).Ok:=Ac (z.ok.low κ.bare) ((st.bare Zc).2.clear);refine uQ (hb (⟨z.c.gF κ s.heap,z.n,z.A,z.C,z.fi,XH,⟨z.a.handled,z.a.guards,z.a.frames,z.a.depth,z.a.units⟩,z.call⟩) (τ:=.nil) (.mk ((st.bare Zc).1.lock (st.bare Zc).2) trivial) (fR.Qb g λk ρ' t k0 C g v s' n=>?_))
 refine n.el @λκ' e ev Ca=>?_
 subst ev;refine Aa Ca XH (z.nc hc:(z.c.gF κ s.heap).fi.comp=false) (z.Xx hc) λs2 Zd U=>sT Zd XH (z.nc hc) bc (.inl rfl) λs3 TX Ze=>?_
 obtain ⟨BU,l2,Zf,re⟩:=n7.settle st TX Ze C.data C.len;refine wpAny_handleBy_cons (codeAny_handlers_test (z.glob (τ:=.nil) (.mk Zf trivial) hx (z.fn (by decide+kernel:(ah "TextFault",81)∈o8)).1 (by decide+kernel) ?_)) nofun
 have Zg:∃oe,s3.heap.get? e=some oe/\oe.cls= .ref 81:=by
  cases re with|mk q0 q1 q2=>cases q0;exact ⟨_,Zf.know _ _ q1,q2⟩
 refine Zg.elim λoe z0=>z0.elim λhe hec=>?_
 refine wpAny_excMatches_sub_self ((z.q_ Zf) _ _ z.ok.w.kw.kx.cls) he hec (rfl) ?_;refine codeAny_handlers_suite_as (sT TX XH (z.nc hc) bc (.inl rfl) λs4 Zh Zi=>?_)
 obtain ⟨acj,l3,st4,re4⟩:=n7.settle st Zh Zi C.data C.len;refine z.store ⟨hF,.inl hFk⟩ (.mk st4 ⟨re4,τ.up l3 Be⟩) λs5 n5=>?_
 refine n5.el @λNF XJ ht5=>XJ.vars.el @λm5 hm5 Zj=>?_
 refine cps λP9 k9=>?_
 have kF:z.c.env.kindOf jj=some .local:=z.kindOf hFk;have at_:∀{i:Nat} {x:Str},fi.vars[i]? =some x->z.c.fi.vars[i]? =some x:=λh=>by rw[z.fi];exact h
 have ne:∀{j:Nat} {x:Str},fi.vars[j]? =some x->(x==jj)=false->XG≠j:=λh1 h2 q=>by subst q;cases h1.symm.trans hF;rw[beq_self_eq_true] at h2;cases h2
 have lt:XG<ρ'.length:=by rw[C.len,st.plen,z.fi];exact (aL.mp hF).1
 obtain ⟨r1,w1,q1⟩:=Zj is d9 _ (at_ hS) ((cn (ne hS (rfl))).trans C.dV);obtain ⟨r2,w2,q2⟩:=Zj it eN _ (at_ hT) ((cn (ne hT (rfl))).trans C.text);obtain ⟨r3,w3,q3⟩:=Zj XG jj (.exc k) (at_ hF) (dD lt);obtain ⟨u1,rfl⟩:=q1;obtain ⟨u2,rfl⟩:=q2;refine k9 ?_;refine uL (tR (IW z XJ hm5 (z.kindOf hSk) (z.kindOf hTk) kF (w1.loc (z.kindOf hSk)) (w2.loc (z.kindOf hTk)) (w3.loc kF) C.room q3 hlen λtk=>?_))
 refine wpAny_nameGoes kF hm5 (by rw[z.kind];rfl) λh' m' XF PP=>?_
 have st6:St z.c NF (ρ.map λU=>bc) σ {s5 with heap:=h',toks:=tk+1}:=XJ.Dm z.ok z.ok.loc PP (sQ XF) (by rw[af,iG,C.len])
  (.mk XF λi x v U hv=>by rw[de] at hv;obtain ⟨U,U,q⟩:=a_.mp hv;cases q) λx b hxb=>(XJ.cells x b hxb).elim λw ⟨o,ho,hd⟩=>⟨w,o,(PP.2 b (z.ok.cellOff x b hxb)).trans ho,hd⟩
 exact g _ _ (.mk st6 ⟨rfl,ht5.2⟩)
noncomputable def iF(fi:FI)(e:Expr)(m:ME):Prop:=∀(z:Z fi) {τ:cO} {ρ:Env} {σ:Store} {s:aI} {Q E:Pq Value},dY z.c τ ρ σ s->1<=s.toks->Go (m z.C ρ σ) (KV z.c τ ρ Q) (KE z.c ρ E)->aO z.M z.A (eval e z.c.env) Q E s
theorem aD.one(h:aD fi e m):iF fi e m:=λz U U U U U U n U g=>h z n g
noncomputable def IX(y:Nat)(z:Tx)(v:V):M V:=v.onStr (λl=>if l.length<=lim then M.ret (.d (.str (pQ y z l))) else M.no) M.no
noncomputable def NN(y:Nat)(z:Tx)(m:ME):ME:=λC ρ=>(m C ρ).bind (IX y z)
theorem iF.replace(ho:iF fi o mo)(hy:ys=S [y])(hz:zs=S z)(hyz:(S [y]==S z)=false)(hlz:z.length<=14)
  (hl:(ap.endLine==pos.line)=true) (hb:∀env whole,eW o (ah "replace") env whole=whole):
  iF fi (.Call (.Attribute o (ah "replace") ap) [.Constant (.str ys) k1 p1,.Constant (.str zs) k2 p2] [] pos) (NN y z mo):=λZz τ ρ σ s Q E n ht g=>by
 subst hy hz;have g:Go ((mo Zz.C ρ σ).bind (IX y z)) (KV Zz.c τ ρ Q) (KE Zz.c ρ λe s=>1<=s.toks->E e s):=Go.mono g (λU U h=>h) λk h v s n U=>h v s n
 refine rC (wpAny_with_toks ht (ho Zz (Q:=λv s=>1<=s.toks->aO Zz.M Zz.A (gj v (ah "replace") _) _ _ s) n ht (Go.seq g λx σ g v s n Cc=>n.one λκ st rv Be=>RV.mc (G:=λv=>aO Zz.M Zz.A (gj v (ah "replace") _) _ _ s) rv g (λl t g=>?_) aC))) ((nz hl rfl (aa rfl)).trans (by rw[hb];rfl))
 obtain ⟨Ny,g⟩:=Go.ite g;refine tQ (sz _ _ _) nQ F.slot_str_replace F.type_str_replace (λa e=>nomatch e) ?_
 refine i9 (P:=λU=>True) rfl (λh U=>⟨.machine,.inr (.inl rfl),kY (f:=.builtin "str.replace") nofun h⟩) (gQ ?_)
 refine f_ (iP (f_ (iP (jv ⟨trivial,?_⟩)) rfl)) rfl;refine SC.replaceW (fy Cc) (uF _) (bT (cy _)) hyz (by rw[sG];exact ac Ny (by decide)) (by rw[sG];exact hlz) λt' k=>?_
 rw[GC];exact g _ _ (.mk (st.tok k) ⟨⟨_,rfl⟩,Be⟩)
theorem aD.IY(hr:iF fi r mr)(hx:xs=S x):aD fi (.BinOp (.Constant (.str xs) k p) .Add r pos) (KR vAdd (eD (.str x)) mr):=λz τ ρ σ s Q E n g=>by
 subst hx;refine vb (iP ?_);have n':dY z.c (τ.v (.str (S x) s.toks) (.d (.str x))) ρ σ {s with toks:=s.toks+1}:=(n.tok _).d λU=>⟨_,rfl⟩
 exact hr z n' (aw (aZ _)) (Go.seq (r:=mr z.C ρ σ) (k:=vAdd (.d (.str x))) g λy σ g v s n=>zP z n g)
noncomputable abbrev Tab:=List (Addr×MF)
noncomputable def Ci(T:Tab)(f:Addr)(C:nj)(vs:List V):M V:=(T.lookup f).elim M.no λm=>dI m C vs
noncomputable def NO(T:Tab):MS:=(T.lookup 415).elim (λU U U=>.stuck) (·.body)
noncomputable def IZ(T:Tab)(C:nj)(f:Addr)(vs:List V):M V:=
 if f=150 then LC 0 (Ci T 119 C) vs else if f=318 then LC 1 (Ci T 273 C) vs else if f=479 then LC 2 (IL (C.call 336) (NO T) C) vs else if f=415 then M.no else Ci T f C vs
noncomputable def aQ(T:Tab)(n:Nat):nj:=match n with
 |0=>⟨λU U=>M.no,0⟩
 |n+1=>⟨IZ T (aQ T n),n⟩
structure LastOk(K:Frag)(mr:MS):Prop where
 body:∃fd p0 p1 ap tp cp ep rest,n4 K 415=some fd/\fd.params.args.map (·.arg)=[eo,eN]/\
  jb fd.body=some (.Expr (.Call (.Attribute (.Call (.Name "super" p0) [] [] p1) "__init__" ap) [.Name eN tp] [] cp) ep::rest)/\(ap.endLine==cp.line)=true/\IG ⟨fd.scope,[eo,eN],false⟩/\
  fd.scope.names.lookup eN=some .local/\eh ⟨fd.scope,[eo,eN],false⟩ rest mr
structure Cj(W:Wd)(T:Tab):Prop where
 fns:∀f m,T.lookup f=some m->f≠415->∃F vars,fnIn W.K f=some F/\II F vars m
 last:LastOk W.K (NO T)
theorem Runs.no{n:Nat}{run:List V->M V}(h:∀vs σ K X,Go (run vs σ) K X->False):Runs W n f run:=λc A _ _ _ {τ ρ σ s vS vs R} _ g=>(h _ _ _ _ g).elim
theorem Runs.tab{T:Tab}{C:nj}(hT:Cj W T)(hC:rH W n C)(hf:f≠415):Runs W n f (Ci T f C):=by
 unfold Ci;cases h:T.lookup f with
 |none=>exact Runs.no (run:=λU=>M.no) λU U U U g=>g
 |some m=>
  refine cps λP9 k9=>?_
  obtain ⟨F,vars,h1,h2⟩:=hT.fns f m h hf;exact k9 (Runs.fn hC h1 h2)
theorem I0(vs:List V)(σ:Store)(K:V->Store->Prop)(X:Int->Prop)(g:Go (IL (λU=>M.no) mr C vs σ) K X):False:=by
 cases vs with
 |nil=>exact g
 |cons o r=>cases r with
  |nil=>exact g
  |cons t r=>cases r with
   |cons U J=>exact g
   |nil=>cases o with
    |obj i=>
     obtain ⟨cl,l,hσ,g⟩:=O.wg g;exact (Go.ite g).elim λU g=>g
    |_=>exact g
theorem LJ{W:Wd}{T:Tab}(hT:Cj W T)(n:Nat):rH W n (aQ T n)/\∀m,n=m+1->rH W m (aQ T m):=by
 induction n with
 |zero=>exact ⟨λU U U U U U U U U U U U U U U g=>g.elim,nofun⟩
 |succ n ih=>
  refine ⟨λc A hW ok pJ τ ρ σ s f vS vs Q E N g=>?_,λm e=>oS e▸ih.1⟩
  subst hW;have g:Go (IZ T (aQ T n) f vs σ) (KV c τ ρ Q) (KE c ρ E):=g;unfold IZ at g
  by_cases h0:f=150
  ·subst h0;rw[if_pos rfl] at g;exact DI (aa rfl) ok.w.kw.kn ok pJ (Runs.tab hT ih.1 (by decide)) N g
  rw[if_neg h0] at g
  by_cases h1:f=318
  ·subst h1;rw[if_pos rfl] at g;exact DI (aa rfl) ok.w.kw.kn ok pJ (Runs.tab hT ih.1 (by decide)) N g
  rw[if_neg h1] at g
  by_cases h2:f=479
  ·subst h2;rw[if_pos rfl] at g;refine DI (aa rfl) ok.w.kw.kn ok pJ ?_ N g;cases n with
   |zero=>exact Runs.no I0
   |succ n=>
    refine cps λP9 k9=>?_
    obtain ⟨fd,p0,p1,ap,tp,cp,ep,rest,q1,q2,q3,q4,q5,q6,q7⟩:=hT.last.body;have ki:=ok.w.kw.ki;exact k9 (Runs.DJ ok.w.kw ((congrArg (·.getD default) q1:KH c.W.K 415=fd)▸(ki.s415):nh c.W.K fd 403 479 479) ki.m415 ki.t336 ki.n336 q1 q2 rfl q3 q4 q5 q6 q7 ih.1 (Runs.tab hT (ih.2 n rfl) (by decide)))
  simp only [if_neg h2] at g
  by_cases h3:f=415
  ·rw[if_pos h3] at g;exact g.elim
  simp only [if_neg h3] at g;exact (Runs.tab hT ih.1 h3).call ok pJ N g
theorem Qd(hT:Cj W T)(n:Nat):rH W n (aQ T n):=(LJ hT n).1
noncomputable def Ap(σ:Store)(r:Res V):Res V:=match r with
 | .stuck=>.stuck
 | .ok v _=>v.yj (λx=>.ok (.d x) σ) .stuck
 | .exc _=>.stuck
noncomputable def uV(call:List V->M V)(ls:List V):M V:=λσ=>(lD ls).elim .stuck λU=>Ap σ (call ls [])
theorem Go.Ap{σ:Store}{K:V->Store->Prop}(g:Go (Internal.Ap σ r) K X):Go r (λv U=>∃x,v= .d x/\K (.d x) σ) X':=by
 cases r with
 |stuck=>exact g
 |ok v τ=>cases v with
  |d x=>exact ⟨x,rfl,g⟩
  |_=>exact g.elim
 |exc k=>exact g.elim
theorem I1{ρ:Env}:∀{P:Nat->V->V->Prop},(∀i v,ρ[i]? =some (some v)->∃w,P i v w)->∃ρ₂:Env,ρ₂.length=ρ.length/\(∀i w,ρ₂[i]? =some (some w)->∃v,ρ[i]? =some (some v)/\P i v w)/\∀i v,ρ[i]? =some (some v)->∃w,ρ₂[i]? =some (some w)/\P i v w:=by
 induction ρ with
 |nil=>exact λU=>⟨[],rfl,nofun,nofun⟩
 |cons o ρ ih=>
  intro P h;obtain ⟨ρ₂,h1,h2,h3⟩:=ih λi v e=>h (i+1) v e
  obtain ⟨vk,h4,h5⟩:∃vk:Option V,(∀w,vk=some w->∃v,o=some v/\P 0 v w)/\∀v,o=some v->∃w,vk=some w/\P 0 v w:=by
   cases o with
   |none=>exact ⟨none,nofun,nofun⟩
   |some v=>
    exact (h 0 v rfl).elim λw hw=>⟨some w,λU e=>⟨v,rfl,aF e▸hw⟩,λU e=>⟨w,rfl,aF e▸hw⟩⟩
  refine ⟨vk::ρ₂,congrArg nL h1,λi w e=>?_,λi v e=>?_⟩
  ·cases i with
   |zero=>obtain ⟨v,e1,p⟩:=h4 w (aF e);exact ⟨v,congrArg some e1,p⟩
   |succ i=>exact h2 i w e
  ·cases i with
   |zero=>obtain ⟨w,e1,p⟩:=h5 v (aF e);exact ⟨w,congrArg some e1,p⟩
   |succ i=>exact h3 i v e
section
variable{fi:FI}
inductive I2(c:Cx)(κ:View)(h:Heap)(m:Str->Option Value)(k i:Nat)(v w:V):Prop
 |mk {x:Str} {rv:Value}:c.fi.vars[i]? =some x->rc c h m x rv->RV κ rv v->(w= .any rv/\nV rv=true/\(i=k->∀d,v≠ .d d))\/(w=v/\∃d,v= .d d)->I2 c κ h m k i v w
theorem I2.el{b9:Prop}(h9:I2 c κ h m k i v w)(k9:∀{x:Str} {rv:Value},c.fi.vars[i]? =some x->rc c h m x rv->RV κ rv v->(w= .any rv/\nV rv=true/\(i=k->∀d,v≠ .d d))\/(w=v/\∃d,v= .d d)->b9):b9:=I2.rec k9 h9
theorem St.Zk(st:St c κ ρ σ s)(k:Nat):∃ρ₂:Env,(St ({c with low:=κ.bare}:Cx) κ.bare ρ₂ [] s/\Off ({c with low:=κ.bare}:Cx) κ.bare (rU c κ) s.heap)/\(∀x,ρ[k]? =some (some (.d x))->ρ₂[k]? =some (some (.d x)))/\
  ∀κ' h' m',κ.bare.le κ'->jd (c.gF κ s.heap) κ' ρ₂ h' m'->jd c (κ.back κ') ρ h' m':=by
 refine cps λP9 k9=>st.vars.el @λm hm hv=>?_
 obtain ⟨ρ₂,h1,h2,h3⟩:=I1 (ρ:=ρ) (P:=I2 c κ s.heap m k) λi v e=>by
  have hl:=(aL.mp e).1;simp only [st.plen] at hl
  obtain ⟨rv,q1,q2⟩:=hv i _ v (bb hl) e
  by_cases q:∃d,v= .d d
  ·exact ⟨v,.mk (bb hl) q1 q2 (.inr ⟨rfl,q⟩)⟩
  ·exact ⟨.any rv,.mk (bb hl) q1 q2 (.inl ⟨rfl,q2.handed v,λU d hd=>q ⟨d,hd⟩⟩)⟩
 refine k9 ⟨ρ₂,st.NM h1 (.mk hm λi x w hx hw=>?_),λx hx=>?_,λκ' h' m' le v' i x v hx hr=>?_⟩
 ·obtain ⟨v,hr,p⟩:=h2 i w hw;cases p with|@mk x' rv p1 p2 p3 p4=>
  obtain rfl:=aF (p1.symm.trans hx);refine ⟨rv,p2,?_⟩;rcases p4 with ⟨e,hh, -⟩|⟨e,d,hd⟩
  ·simp only [e];exact ⟨rfl,hh⟩
  ·subst e hd;exact p3
 ·obtain ⟨w,hw,p⟩:=h3 k _ hx;refine p.el λp1 p2 p3 p4=>?_
  rcases p4 with ⟨_, -,n⟩|⟨e, -⟩
  ·exact (n rfl x rfl).elim
  ·rw[hw,e]
 ·obtain ⟨w,hw,p⟩:=h3 i v hr;cases p with|@mk x' rv p1 p2 p3 p4=>
  obtain ⟨Xv,q1,q2⟩:=v' i x w hx hw;refine ⟨Xv,q1,?_⟩;rcases p4 with ⟨e, -, -⟩|⟨e,d,hd⟩
  ·subst e;cases q2.1;exact RV.mono (κ:=κ) (κ':=κ.back κ') ⟨rfl,le.B,yM.refl _⟩ v p3
  ·subst e hd;exact q2
noncomputable def Z.gF(z:Z fi)(κ:View)(st:St z.c κ ρ σ s)(off:Off ({z.c with low:=κ.bare}:Cx) κ.bare (rU z.c κ) s.heap):Z fi:=⟨z.c.gF κ s.heap,z.n,z.A,z.C,z.fi,Ac (z.ok.low κ.bare) off.clear,⟨z.a.handled,z.a.guards,z.a.frames,z.a.depth,z.a.units⟩,z.call⟩
theorem Fj(z:Z fi){τ:cO}{t:Sem Value}{m:ME}{k:Nat}{Q E:Pq Value}(n:dY z.c τ ρ σ s)(g:Go (Ap σ (m z.C ρ [])) (KV z.c τ ρ Q) (KE z.c ρ E))(hm:∀ρ₂:Env,(∀x,ρ[k]? =some (some (.d x))->ρ₂[k]? =some (some (.d x)))->m z.C ρ₂ []=m z.C ρ [])
  (h:∀(κ:View) (st:St z.c κ ρ σ s) off,τ.p κ->∀(ρ₂:Env) (Q' E':Pq Value),St (z.gF κ st off).c κ.bare ρ₂ [] s->Go (m z.C ρ₂ []) (KV (z.gF κ st off).c .nil ρ₂ Q') (KE (z.gF κ st off).c ρ₂ E')->aO z.M z.A t Q' E' s):aO z.M z.A t Q E s:=by
 refine cps λP9 k9=>n.el @λκ st ht=>?_
 obtain ⟨ρ₂,⟨kK,off⟩,hk,hρ⟩:=st.Zk k;refine k9 ?_;refine h κ st off ht ρ₂ Q E (kK.lock off) ?_;rw[hm ρ₂ hk];refine (Go.Ap g).mono (λv τ' hv rv s' n'=>?_) λU h=>h
 obtain ⟨x,e,g⟩:=hv;subst e;refine n'.el λst' Dp=>(st.back st'.P st'.rest st'.kept st'.know st'.outer (λa ha=>(st'.hid a ha).B) (λa ha=>(st'.priv a ha).B) (λa ha=>ha.elim (λh=>(st'.priv a h).at_) λh=>(st'.hid a h).at_) (by cases st'.vars with|mk hm hv=>exact .mk hm (hρ _ _ _ st'.P.le hv)) st'.cells rfl).elim λl Zl=>?_
 exact g rv s' (.mk Zl ⟨Dp.1,τ.up l ht⟩)
theorem I3(eB:κ'.B=κ.B):∀{vs:List Value} {ds:List D},lD ls=some ds->o7 κ vs ls->o7 κ' vs ls:=by
 induction ls with
 |nil=>exact λU r=>r
 |cons v ls ih=>
  intro vs ds h r;cases v with
  |d x=>
   obtain ⟨ds',h', -⟩:=a_.mp (h);exact kJ.imp r (λv p=>by show RD κ'.B v x;rw[eB];exact p) λU p=>ih h' p
  |_=>cases h
theorem DT(z:Z fi){τ:cO}{vs:List Value}{Q E:Pq Value}(n:dY z.c (τ.vs vs ls) ρ σ s)(g:Go (uV (z.C.call f) ls σ) (KV z.c τ ρ Q) (KE z.c ρ E)):aO z.M z.A (call (.ref f) vs) Q E s:=by
 unfold uV at g;cases hd:lD ls with
 |none=>rw [hd] at g;exact g.elim
 |some ds=>
  rw[hd] at g;exact Fj z (m:=λC U=>C.call f ls) (k:=0) n (Go.mono g (λU U h v s n=>h v s (n.le λU h=>⟨h.1,h.2.2⟩)) λU h=>h) (λU U=>rfl) λκ st off ht ρ₂ Q' E' st' g'=>
   z.call (z.gF κ st off).c z.A rfl (z.gF κ st off).ok (z.gF κ st off).a .nil ρ₂ [] s f vs ls Q' E' (.mk st' ⟨I3 (κ:=κ) (κ':=κ.bare) rfl hd ht.1,trivial⟩) g'
end
noncomputable def Qe(f:Nat)(m:MAs):ME:=λC ρ=>(m C ρ).bind (uV (C.call f))
theorem aD.uV(hf:(x,a)∈o8)(hx:fi.scope.names.lookup x=some .globalImplicit)(h:c5 fi es m)(hp:d0 es=true)(hd:(x==("__debug__":Str))=false):aD fi (.Call (.Name x p) es [] pos) (Qe a m):=λz U U U U U U st g=>
 i_ rfl (z.glob st hx (z.fn hf).1 hd (EM z (z.fn hf).2 h hp st (g.seq λU U g U U st=>DT z st g)))
noncomputable def vW(f g k:Nat):ME:=λC ρ σ=>(ρ[k]?).join.elim .stuck λv=>v.yj (λx=>Ap σ ((C.call g [.d x] []).bind λv τ=>C.call f [v] τ)) .stuck
theorem aD.Qf{x y z:Str}{p q u pos DU:Pos}(hf:(x,a)∈o8)(hx:fi.scope.names.lookup x=some .globalImplicit)(hg:(y,b)∈o8)(hy:fi.scope.names.lookup y=some .globalImplicit)(hz:aD fi (.Name z u) (Bo k))
  (hd:(x==("__debug__":Str))=false) (hd':(y==("__debug__":Str))=false):aD fi (.Call (.Name x p) [.Call (.Name y q) [.Name z u] [] DU] [] pos) (vW a b k):=λZz τ ρ σ s Q E n g=>by
 refine cps λP9 k9=>?_
 have RQ:aD fi (.Call (.Name x p) [.Call (.Name y q) [.Name z u] [] DU] [] pos) (BC a (Bp (BC b (Bp (Bo k) aNil)) aNil)):=
  aD.call hf hx (c5.cons (aD.call hg hy (c5.cons hz c5.nil λU=>rfl) rfl hd') c5.nil λU=>rfl) rfl hd
 unfold vW at g;cases hj:(ρ[k]?).join with
 |none=>rw [hj] at g;exact g.elim
 |some v=>
  rw[hj] at g;cases v with
  |d v=>
   have e:∀ρ₂:Env,ρ₂[k]? =some (some (.d v))->BC a (Bp (BC b (Bp (Bo k) aNil)) aNil) Zz.C ρ₂ []=(Zz.C.call b [.d v] []).bind λv τ=>Zz.C.call a [v] τ:=λρ₂ h2=>by
    show ((((Bo k Zz.C ρ₂).bind _).bind (Zz.C.call b)).bind _|>.bind (Zz.C.call a)) []=_
    rw[(by unfold Bo;rw[h2]:Bo k Zz.C ρ₂=M.ret (.d v))]
    show (((Zz.C.call b [.d v] []).bind _).bind _)=_;cases Zz.C.call b [.d v] []<;>rfl
   have hk:=join_some hj;refine k9 ?_
   refine Fj Zz n ?_ (λρ₂ h2=>(e ρ₂ (h2 v hk)).trans (e ρ hk).symm) λκ st off ht ρ₂ Q' E' st' g'=>RQ (Zz.gF κ st off) (.mk st' trivial) g'
   rw[e ρ hk];exact g
  |_=>exact g.elim
noncomputable def eqT(a:List Nat):List Nat->Bool:=match a with
 |[]=>λb=>b.isEmpty
 |a::x=>λb=>b.casesOn (motive:=λU=>Bool) false λb y=>cond (bH a b) (eqT x y) false
theorem Aq:∀{b:List Nat},eqT a b=true↔a=b:=by
 induction a with
 |nil=>
  intro b;cases b with
  |nil=>exact ⟨λU=>rfl,λU=>rfl⟩
  |cons b y=>exact ⟨nofun,nofun⟩
 |cons a x ih=>
  intro b;cases b with
  |nil=>exact ⟨nofun,nofun⟩
  |cons b y=>
   show cond (bH a b) (eqT x y) false=true↔_;cases h:bH a b with
   |true=>
    obtain rfl:=dP h;exact ⟨λh=>congrArg (a::·) (ih.mp h),λh=>ih.mpr (c6 h).2⟩
   |false=>exact ⟨nofun,λe=>absurd (c6 e).1 (oV h)⟩
noncomputable def qB(a b:Str):Bool:=eqT a.cps.toList b.cps.toList
theorem mw:qB a b=true↔a=b:=⟨λh=>congrArg S (Aq.mp h),λh=>Aq.mpr (congrArg (·.cps.toList) h)⟩
theorem Ar(a b:Str):qB a b=(a==b):=by
 cases h:qB a b with
 |true=>rw [mw.mp h,beq_self_eq_true]
 |false=>exact (beq_eq_false_iff_ne.mpr λe=>by rw[mw.mpr e] at h;cases h).symm
noncomputable def pT{α:Type}(x:Str)(l:List (Str×α)):Option α:=match l with
 |[]=>none
 |p::r=>cond (qB x p.1) (some p.2) (pT x r)
theorem Ck{α:Type}(x:Str)(l:List (Str×α)):pT x l=l.lookup x:=by
 induction l with
 |nil=>rfl
 |cons p r ih=>
  show cond (qB x p.1) (some p.2) (pT x r)=u_ x ((p.1,p.2)::r);rw[cz,<-Ar,ih];cases qB x p.1<;>rfl
noncomputable def vt(x:Str)(l:List Str):Nat->Option Nat:=match l with
 |[]=>λU=>none
 |y::r=>λn=>cond (qB x y) (some n) (vt x r (n+1))
theorem LK:∀{n i:Nat},vt x l n=some i->∃j,i=n+j/\l[j]? =some x:=by
 induction l with
 |nil=>exact nofun
 |cons y r ih=>
  intro n i h;have h:cond (qB x y) (some n) (vt x r (n+1))=some i:=h;cases e:qB x y with
  |true=>
   rw[e] at h;cases h;exact ⟨0,rfl,congrArg some (mw.mp e).symm⟩
  |false=>
   rw[e] at h;obtain ⟨j,e1,hj⟩:=ih h;exact ⟨j+1,e1.trans (cq n j),hj⟩
theorem DV(h:vt x l 0=some i):l[i]? =some x:=by
 obtain ⟨j,e,hj⟩:=LK h;rw[e,bA];exact hj
theorem lH{α:Type}{x:Str}{l:List (Str×α)}{a:α}(h:pT x l=some a):(x,a)∈l:=e9 ((Ck x l).symm.trans h)
noncomputable def ul(fi:FI)(x:Str)(k:bZ):Bool:=(pT x fi.scope.names).elim false (·==k)
theorem qC(h:ul fi x k=true):fi.scope.names.lookup x=some k:=by
 unfold ul at h;rw[Ck] at h;cases e:fi.scope.names.lookup x with
 |none=>rw [e] at h;cases h
 |some q=>rw [e] at h;exact congrArg some (eq_of_beq h)
noncomputable abbrev mR(fi:FI)(x:Str):Bool:=ul fi x .globalImplicit
theorem eX(h:mR fi x=true):fi.scope.names.lookup x=some .globalImplicit:=qC h
noncomputable def NQ(fi:FI)(x:Str):Bool:=ul fi x .local||ul fi x .cell
noncomputable def DW(fi:FI)(x:Str):Option Nat:=cond (NQ fi x) (vt x fi.vars 0) none
theorem qD(h:DW fi x=some i):sP fi i x:=by
 unfold DW at h;cases e:NQ fi x with
 |false=>rw [e] at h;cases h
 |true=>rw [e] at h;exact ⟨DV h,(cw.mp e).imp qC qC⟩
noncomputable def qE(x:Str):Bool:=!qB x "__debug__"&&!qB x "__classdict__"
theorem fv(h:qE x=true):(x==("__debug__":Str))=false/\(x==("__classdict__":Str))=false:=
 have h:=jx h
 ⟨(Ar x _).symm.trans (GF h.1),(Ar x _).symm.trans (GF h.2)⟩
noncomputable def dummy(scope:fV):aV:={scope:=scope,locals:=0,globals:=0,cells:=[],qual:=Hk,func:=none,code:=.none,frame:=none,builtins:=0}
theorem Cm(h:env.scope=scope):fU value t line env=fU value t line (dummy scope):=by
 subst h;rfl
theorem Au(h:env.scope=scope):iB t value env=iB t value (dummy scope):=by
 subst h;rfl
noncomputable def w5(fi:FI)(value:Expr)(t:Option Expr)(line:Nat):Option Bool:=pureOf (fU value t line (dummy fi.scope))
theorem um(h:w5 fi value t line=some b)(he:env.scope=fi.scope):fU value t line env=pure b:=(Cm he).trans (of_pureOf h)
noncomputable def Av(fi:FI)(value:Expr)(t:List Expr):Option (Option (List Str)):=pureOf (iB t value (dummy fi.scope))
theorem w6(h:Av fi value t=some b)(he:env.scope=fi.scope):iB t value env=pure b:=(Au he).trans (of_pureOf h)
noncomputable def I4(k:Nat):Bool:=bH k 0||(bH k 3||(bH k 5||bH k 15))
structure Qg(e:Expr):Prop where
 set:e.ctorIdx≠7->∀env x,fE e env x=pure x
 slice:e.ctorIdx≠26->∀o i,gP e false o i=o4 [o,i] (j6 o i)
 base:e.ctorIdx≠16->∀attr env whole,eW e attr env whole=whole
 test:I4 e.ctorIdx=false->∀env whole,x5 e env whole=(do let v<-whole;f' e.pos;g9 [v] (x7 v))
theorem Aw(e:Expr):Qg e:=by
 cases e<;>exact ⟨λh=>by first|exact λU U=>rfl|exact absurd rfl h,λh=>by first|exact λU U=>rfl|exact absurd rfl h,λh=>by first|exact λU U U=>rfl|exact absurd rfl h,λh=>by first|exact λU U=>rfl|exact uD (show true=false from h)⟩
theorem GO(attr:Str)(env:aV)(whole:Sem Value):eW (.Call f (a::es) ks p) attr env whole=whole:=by cases f<;>rfl
section
noncomputable abbrev Hints:=Pos->Nat
noncomputable abbrev Cf{α:Type}(p:α->Prop):=Option {a//p a}
section
variable{α β:Type}{p:α->Prop}
noncomputable def ok{a:α}(h:p a):Cf p:=some ⟨a,h⟩
noncomputable def gt(o:Cf p)(k:∀a,p a->Option β):Option β:=o.bind λq=>k q.1 q.2
noncomputable def bO:(o:Option α)->(∀a,o=some a->Option β)->Option β
 |none,_=>none
 |some a,k=>k a rfl
noncomputable def bB:(b:Bool)->(b=true->Option β)->Option β
 |true,k=>k rfl
 |false,_=>none
noncomputable def oO:Option β->Option β->Option β
 |some a,_=>some a
 |none,b=>b
end
theorem an{a b:Bool}(h:(a&&b)=true):a=true/\b=true:=jx h
theorem no{b:Bool}(h:(!b)=true):b=false:=GF h
theorem DX{a b:Nat}(h:(!bH a b)=true):a≠b:=oV (no h)
noncomputable abbrev Ax(e:Expr):Bool:=!bH e.ctorIdx 7
theorem qF{e:Expr}(h:Ax e=true):∀(env:aV) (x:Value),fE e env x=pure x:=(Aw e).set (DX h)
noncomputable abbrev Cn(e:Expr):Bool:=!bH e.ctorIdx 26
theorem Co{e:Expr}(h:Cn e=true):∀o i,gP e false o i=o4 [o,i] (j6 o i):=(Aw e).slice (DX h)
noncomputable abbrev zg(e:Expr):Bool:=!I4 e.ctorIdx
theorem Ay{e:Expr}(h:zg e=true):∀env whole,x5 e env whole=(do let v<-whole;f' e.pos;g9 [v] (x7 v)):=(Aw e).test (no h)
section
variable{γ α:Type}
noncomputable def ix(a b:Nat)(k:a=b->Option γ):Option γ:=bB (bH a b) λh=>k (dP h)
noncomputable def lR{β:List α->Type}(l:List α)(n:β [])(c:∀a r,β r->β (a::r)):β l:=List.rec n c l
noncomputable def lc{β:List α->Type}(l:List α)(n:β [])(c:∀a r,β (a::r)):β l:=lR l n λa r U=>c a r
noncomputable def onl(l:List α)(k:∀y,l=[y]->Option γ):Option γ:=lc (β:=λl'=>l=l'->Option γ) l (λU=>none) (λa r=>lc (β:=λr=>l=a::r->Option γ) r (λh=>k a h) λU U U=>none) rfl
end
noncomputable abbrev PB(e:Expr):Prop:=∀(attr:Str) (env:aV) (whole:Sem Value),eW e attr env whole=whole
noncomputable def pb(e:Expr):Cf λ(_:Unit)=>PB e:=oO (bB (!bH e.ctorIdx 16) λh=>ok (a:=()) ((Aw e).base (DX h))) (ix _ _ λw=>eu e w λU es ks U=>ay ks (ay es none λU U=>ok (a:=()) GO) λU U=>none)
structure Rec where
 E:∀fi e,Cf (aD fi e)
 R:∀fi e,Cf (iF fi e)
 B:∀fi e,Cf (cC fi e)
 Q:∀fi e,Cf (b_ fi e)
 S:∀fi e,Cf (eh fi e)
noncomputable def TY(fi:FI)(x:Str)(pos:Pos):Cf (aD fi (.Name x pos)):=bB (qE x) λhn=>oO (bO (vt x fi.vars 0) λU h=>ok (aD.loc (DV h) (fv hn).1 (fv hn).2))<|bB (mR fi x) λhg=>
 oO (bO (pT x strTab) λU h=>ok (aD.Yl (lH h) (eX hg) (fv hn).1))<|
 oO (bO (pT x tX) λU h=>ok (aD.Ym (lH h) (eX hg) (fv hn).1))<|
 oO (bO (pT x v_) λU h=>ok (aD.Yn (lH h) (eX hg) (fv hn).1))<|
 bB (qB x (ah "MOST_DIGITS")) λh=>ok (a:=eD (.int 1000)) (by cases mw.mp h;exact aD.Sl (eX hg))
noncomputable def Qh(fi:FI)(k:Nat)(pos:Pos):(c:F1)->Cf (aD fi (.Constant c k pos))
 | .int _=>ok aD.int
 | .str _=>ok (aD.str (Hz _).symm)
 | .bool _=>ok aD.bool
 | .none=>ok aD.none
 |_=>none
noncomputable def Zm:(op:tW)->Cf (qN (dH op))
 | .Add=>ok zP
 | .Sub=>ok K0
 | .Mult=>ok K1
 | .Mod=>ok K2
 | .FloorDiv=>ok K3
 |_=>none
noncomputable def Qi:(op:CmpOp)->Cf (qO op)
 | .Eq=>ok O2
 | .NotEq=>ok O3
 | .Lt=>ok OZ
 | .LtE=>ok O0
 | .Gt=>ok cmp_gt
 | .GtE=>ok O1
 | .Is=>ok O4
 | .IsNot=>ok F9
 | .In=>ok O6
 | .NotIn=>ok Ga
noncomputable def toS{p:Str->Type}(a b:Str)(k:Option (p b)):Option (p a):=bB (qB b a) λh=>mw.mp h▸k
structure I5(x:Str)(op:List V->M V):Prop where
 get:∃v,lE v op/\x∈kR/\g_ x=some v/\∀a,v≠ .ref a
theorem GP:∀x∈kR,x≠"__name__":=by decide
noncomputable def fa(x y:Str){v:Value}{op:List V->M V}(f:lE v op)(hv:g_ y=some v)(hr:∀a,v≠ .ref a):Cf (I5 x):=toS (p:=λx=>{o//I5 x o}) x y (bO (vt y kR 0) λU h=>ok ⟨v,f,bM (DV h),hv,hr⟩)
noncomputable def Zn(x:Str):Cf (I5 x):=
 oO (fa x "len" So (by kernel_rfl) nofun)<|oO (fa x "str" Sq (by kernel_rfl) nofun)<|oO (fa x "int" Sr (by kernel_rfl) nofun)<|oO (fa x "tuple" K_ (by kernel_rfl) nofun)<|oO (fa x "list" O_ (by kernel_rfl) nofun)<|
 oO (fa x "all" Sv (by kernel_rfl) nofun)<|oO (fa x "min" Sw (by kernel_rfl) nofun)<|oO (fa x "max" Sx (by kernel_rfl) nofun)<|oO (fa x "repr" Po (by kernel_rfl) nofun) (fa x "dict" PU (by kernel_rfl) nofun)
structure Qj(x:Str)(q:Nat×(V->List V->M V)):Prop where
 get:∃id,jI id q.2/\Slot (kT q.1) x id/\ya (kT q.1)/\sD (.builtin id)=pure (.type "method_descriptor")
noncomputable def ba(x y:Str)(q:Nat×(V->List V->M V)){id:String}(h:jI id q.2)(s:Slot (kT q.1) y id)(p:ya (kT q.1))(t:sD (.builtin id)=pure (.type "method_descriptor")):Cf (Qj x):=toS (p:=λx=>{o//Qj x o}) x y (ok ⟨_,h,s,p,t⟩)
noncomputable def cBM(x:Str):Cf (Qj x):=
 oO (ba x "append" (1,mAppend) HZ F.slot_list_append jt F.type_list_append)<|oO (ba x "extend" (1,mExtend) H0 F.slot_list_extend jt F.type_list_extend)<|
 oO (ba x "pop" (1,mPop) Sy F.slot_list_pop jt F.type_list_pop)<|oO (ba x "index" (1,mIndex) Lc F.slot_list_index jt F.type_list_index)<|
 oO (ba x "join" (0,mJoin) Pk F.slot_str_join nQ F.type_str_join)<|oO (ba x "find" (0,mFind) m_find F.slot_str_find nQ F.type_str_find) (ba x "get" (2,mGet) SA F.slot_dict_get F.plainAttrs_dict F.type_dict_get)
noncomputable def Zo(x:Str)(f:Nat->Str)(b:Nat):Nat->Cf λk=>x=f k/\k<=b
 |0=>none
 |n+1=>oO (bB (qB x (f n)&&b7 n b) λh=>ok ⟨mw.mp (an h).1,aa (an h).2⟩) (Zo x f b n)
noncomputable def atIdx(x:Str):Cf λk=>x=du k/\k<=12:=Zo x du 12 12
noncomputable def Fm(x:Str)(late:Bool):List (Nat×Str×Addr)->Option (Nat×Str×Addr)
 |[]=>none
 |p::r=>cond (qB p.2.1 x&&(!late||bH p.1 2)) (some p) (Fm x late r)
theorem s9{x:Str}{late:Bool}:∀{l p},Fm x late l=some p->p∈l/\p.2.1=x
 |q::r,p,h=>by
  unfold Fm at h;cases e:(qB q.2.1 x&&(!late||bH q.1 2))<;>rw [e] at h
  ·exact ⟨.tail _ (s9 h).1,(s9 h).2⟩
  ·cases h;exact ⟨.head _,mw.mp (an e).1⟩
section
variable{fi:FI}(f:∀e,Cf (aD fi e))
noncomputable def Qk(es:List Expr):Cf λm=>c5 fi es m/\d0 es=true:=lR (β:=λes=>Cf λm=>c5 fi es m/\d0 es=true) es (ok ⟨c5.nil,rfl⟩) λe r o=>
 bB (!isStar e) λhs=>gt (f e) λU h=>gt o λU q=>ok ⟨c5.cons h q.1 λU=>gA (no hs),by show (!isStar e&&d0 r)=true;rw[hs,q.2];rfl⟩
noncomputable def cP(o:Option Expr):Cf (n_ fi o):=dQ o (ok n_.none) (λe=>gt (f e) λU h=>ok (n_.some h))
noncomputable def cPs(ks:List (Option Expr)):∀es,Cf (j3 fi ks es):=lR (β:=λks=>∀es,Cf (j3 fi ks es)) ks (λes=>ay es (ok .nil) λU U=>none) λk ks o es=>
 ay es none λe es=>dQ k none λk=>ix _ _ λw=>fb k w λc U U=>ix _ _ λw=>lQ c w λU=>gt (f e) λU h=>gt (o es) λU q=>ok (.cons (Hz _).symm h q)
noncomputable def cJ(es:List Expr):Cf (mQ fi es):=lR (β:=λes=>Cf (mQ fi es)) es (ok mQ.nil) λe U o=>gt (f e) λU h=>gt o λU q=>ok (mQ.cons h q)
theorem Fo{x y:Str}(h:qB x y=true):x=y:=mw.mp h
noncomputable def cI(h:Hints)(iter target:Expr):Cf (fW fi iter target):=oO
 (ix _ _ λw=>bY target w λy q=>oO (ix _ _ λw=>eu iter w λuu es ks pos=>ay ks (ay es none λa es=>ix _ _ λw=>bY uu w λx p=>bB (qB x "range"&&mR fi x) λe=>gt (Qk f (a::es)) λm hm=>ok (a:=Ik m) (by cases Fo (an e).1;exact fW.range hm.1 (eX (an e).2) hm.2)) λU U=>none)
  (cond (bH (h iter.pos) 4) (gt (f iter) λU h=>ok (fW.signs h)) none))<|oO
 (ix _ _ λw=>iH target w λts n q=>ix _ _ λw=>eu iter w λuu es ks pos=>ay ks (ay es none λa es=>ix _ _ λw=>bY uu w λx p=>bB (mR fi x) λe=>gt (Qk f (a::es)) λm hm=>oO
  (bB (qB x "enumerate") λex=>ok (a:=Nr m) (by cases Fo ex;exact fW.YL hm.1 (eX e) hm.2))
  (bB (qB x "zip") λex=>ok (a:=SU m) (by cases Fo ex;exact fW.zip hm.1 (eX e) hm.2))) λU U=>none)
 (gt (f iter) λU h=>ok (fW.each h))
noncomputable def cT1(t:Expr):Cf (eZ fi t):=oO (ix _ _ λw=>bY t w λx U=>bO (DW fi x) λU h=>ok (eZ.var (qD h))) (ix _ _ λw=>d8 t w λo x U=>gt (f o) λU h=>gt (atIdx x) λU hk=>ok (eZ.attr h hk.1))
noncomputable def TZ(fi:FI)(es:List Expr)(ts:List MT):Prop:=iC fi es ts/\d0 es=true/\es.length=ts.length/\∀t∈ts,∀x C ρ σ,Nx (t x C ρ σ)
noncomputable def cTs(es:List Expr):Cf (TZ fi es):=lR (β:=λes=>Cf (TZ fi es)) es (ok ⟨iC.nil,rfl,rfl,λU h=>absurd h bu⟩) λe r o=>bB (!isStar e) λhs=>gt (cT1 f e) λU h=>gt o λU q=>
 ok ⟨iC.cons h q.1 (no hs),by show (!isStar e&&d0 r)=true;rw[hs,q.2.1];rfl,congrArg nL q.2.2.1,λt ht=>(aN.mp ht).elim (λe=>e▸h.nx) (q.2.2.2 t)⟩
noncomputable def cT(t:Expr):Cf (eZ fi t):=oO (ix _ _ λw=>iH t w λes U U=>gt (cTs f es) λU q=>ok (eZ.tup q.1 q.2.1 q.2.2.1 q.2.2.2)) (cT1 f t)
end
structure CC where
 mi:MI
 mt:MT
 b:MC
 cap:List (Option Nat)
noncomputable def CC.m(c:CC):ME:=s6 c.mi c.mt c.b c.cap
noncomputable def T1(p:Str×bZ):Bool:=match p.2 with
 | .local=>!qB p.1 (ah ".0")
 |_=>false
noncomputable def isFree(p:Str×bZ):Bool:=match p.2 with
 | .free=>true
 |_=>false
noncomputable def cnames(scope:fV):List (Str×bZ):=scope.names.filter λp=>T1 p||isFree p
noncomputable def zh(scope:fV):List Str:=(cnames scope).map (·.1)
noncomputable def DY(fi:FI)(scope:fV):List (Option Nat):=(cnames scope).map λp=>cond (isFree p) (vt p.1 fi.vars 0) none
inductive uo(fi:FI)(elt:Expr)(scope:fV)(pos:Pos):List eU->CC->Prop
 |mk {target iter:Expr} {ifs:List Expr} {rest:List eU} {em:Value->aV->Sem Unit} {vars:List Str} {cc:CC}:Af fi scope vars cc.cap elt target iter ifs rest em pos cc.mi cc.mt cc.b->uo fi elt scope pos (⟨target,iter,ifs,0⟩::rest) cc
theorem uo.e{fi:FI}{elt:Expr}{scope:fV}{gens:List eU}{pos:Pos}{cc:CC}(h:uo fi elt scope pos gens cc):aD fi (.ListComp elt gens scope pos) cc.m:=by
 induction h with|mk I=>exact aD.comp I
theorem uo.s{fi:FI}{elt:Expr}{scope:fV}{gens:List eU}{pos p sp:Pos}{cc:CC}{x:Str}{i:Nat}(h:uo fi elt scope pos gens cc)(hi:sP fi i x):w5 fi (.ListComp elt gens scope pos) (some (.Name x p)) sp.line=some true->
  cb fi (.Assign [.Name x p] (.ListComp elt gens scope pos) sp) (BI cc.m (BH i)):=by
 induction h with|mk I=>exact λhs=>cb.Lu I hi λU he=>um hs he
noncomputable def Ql(fi:FI)(cap:List (Option Nat))(x:Str):Cf λi=>sP fi i x/\cap[i]? =some none:=bO (DW fi x) λi h=>bB (decide (cap[i]? =some none)) λq=>ok ⟨qD h,of_decide_eq_true q⟩
noncomputable def cTc(fi:FI)(cap:List (Option Nat))(t:Expr):Cf λm=>eZ fi t m/\mP cap m:=oO (ix _ _ λw=>bY t w λx U=>gt (Ql fi cap x) λU h=>ok ⟨eZ.var h.1,mP.var h.2⟩)
 (ix _ _ λw=>iH t w λes U U=>ay es none λa r'=>ay r' none λb r'=>ay r' (ix _ _ λw=>bY a w λx U=>ix _ _ λw=>bY b w λy U=>gt (Ql fi cap x) λU h=>gt (Ql fi cap y) λU q=>
  ok ⟨eZ.tup (iC.cons (eZ.var h.1) (iC.cons (eZ.var q.1) iC.nil rfl) rfl) rfl rfl λt ht=>(aN.mp ht).elim (λe=>e▸λU U U U=>rfl) λht=>aA.mp ht▸λU U U U=>rfl,mP.two h.2 q.2⟩) λU U=>none)
variable(h:Hints)(r:Rec)(fi:FI)
noncomputable def NR(ifs:List Expr)(elt:Expr)(cap:List (Option Nat)):Cf λb=>mN fi ifs (BS elt) b/\ui cap b:=gt (oO (ay ifs (ok j8.nil) λU U=>none) (ay ifs none λe r'=>ay r' (gt (r.B fi e) λU h=>ok (j8.one h)) λU U=>none):Cf (j8 fi ifs))
 λU h=>gt (r.E fi elt) λU q=>ok ⟨mN.elt h q,BV⟩
noncomputable def NS(elt:Expr)(gens:List eU)(scope:fV)(pos:Pos):Cf (uo fi elt scope pos gens):=bB (E0 fi scope (zh scope) (DY fi scope)) λc=>ay gens none λg gs=>pB g λtarget iter ifs a=>bB (decide (a=0)) λw=>(of_decide_eq_true w).symm▸(
 bB (Ax iter) λns=>gt (cI (r.E fi) h iter target) λmi hi=>gt (cTc (oo fi scope (zh scope)) (DY fi scope) target) λmt ht=>oO
  (ay gs (gt (NR r (oo fi scope (zh scope)) ifs elt (DY fi scope)) λb hb=>ok (a:=⟨mi,mt,b,DY fi scope⟩) (.mk ⟨Iy,yZ c,hi,ht.1,ht.2,hb.1,hb.2,qF ns⟩)) λU U=>none)
  (ay ifs (ay gs none λg r'=>ay r' (pB g λT2 T3 ifs a=>bB (decide (a=0)) λw=>(of_decide_eq_true w).symm▸(bB (Ax T3) λn2=>gt (cI (r.E (oo fi scope (zh scope))) h T3 T2) λZp h₂=>gt (cTc (oo fi scope (zh scope)) (DY fi scope) T2) λZq jB=>gt (NR r (oo fi scope (zh scope)) ifs elt (DY fi scope)) λb hb=>
   ok (a:=⟨mi,mt,E6 Zp Zq b,DY fi scope⟩) (.mk ⟨GA,yZ c,hi,ht.1,ht.2,mN.nest h₂ jB.1 hb.1 (qF n2),BW jB.2 hb.2,qF ns⟩))) λU U=>none) λU U=>none))
noncomputable def gl(x:Str):Cf λ(_:Unit)=>fi.scope.names.lookup x=some .globalImplicit/\(x==("__debug__":Str))=false:=bB (mR fi x&&qE x) λe=>ok (a:=()) ⟨eX (an e).1,(fv (an e).2).1⟩
noncomputable def Qm(x:Str)(p pos:Pos)(es:List Expr):Cf (aD fi (.Call (.Name x p) es [] pos)):=ay es none λa r'=>ay r' (ix _ _ λw=>eu a w λuu es ks DU=>ay ks (ay es none λb bs=>ix _ _ λw=>bY uu w λy q=>ay bs (ix _ _ λw=>bY b w λz u=>gt (gl fi x) λU hx=>gt (gl fi y) λU hy=>bB (qE z) λhz=>bO (pT x o8) λU ha=>bO (pT y o8) λU hb=>bO (vt z fi.vars 0) λU hk=>
   ok (aD.Qf (lH ha) hx.1 (lH hb) hy.1 (aD.loc (DV hk) (fv hz).1 (fv hz).2) hx.2 hy.2)) λU U=>none) λU U=>none) λU U=>none
noncomputable def Qo(x:Str)(p pos:Pos)(es:List Expr):Cf (aD fi (.Call (.Name x p) es [] pos)):=cond (qB x "isinstance") (gt (r.Q fi (.Call (.Name x p) es [] pos)) λU h=>ok (b_.e h))<|
 cond (bH (h pos) 10) (Qm fi x p pos es)<|gt (gl fi x) λU hx=>gt (Qk (r.E fi) es) λU q=>oO
  (bO (pT x o8) λU ha=>cond (bH (h pos) 9) (ok (aD.uV (lH ha) hx.1 q.1 q.2 hx.2)) (ok (aD.call (lH ha) hx.1 q.1 q.2 hx.2)))
  (gt (Zn x) λU h4=>ok (by obtain ⟨v,q1,q2,q3,q4⟩:=h4.get;exact aD.Yp q1 q2 q3 hx.1 q.1 q4 q.2 (GP _ q2) hx.2))
noncomputable def Zr(o:Expr)(env:aV):Sem Bool:=do return (<-qr o env).getD true
theorem Fp{o:Expr}{name:Str}{apos pos:Pos}{es:List Expr}(hl:bH apos.endLine pos.line=true)(h2:d0 es=true)(h3:Nat.blt es.length 30=true)(h4:PB o)(env:aV):eval (.Call (.Attribute o name apos) es [] pos) env=(do
  let ov<-eval o env
  f' apos.atName
  let (f,first)<-g9 [ov] (gj ov name (Zr o env))
  ku pos f first (iV pos (d7 es env)) (nZ pos (ja [] env))):=by
 refine (nz (beq_iff_eq.mpr (dP hl)) h2 (aa h3)).trans ?_;rw[h4];rfl
noncomputable def Qp(o:Expr)(name:Str)(apos pos:Pos)(es:List Expr):Cf (aD fi (.Call (.Attribute o name apos) es [] pos)):=bB (bH apos.endLine pos.line) λh1=>bB (Nat.blt es.length 30) λh3=>gt (pb o) λU h4=>
 gt (r.E fi o) λmo ho=>gt (Qk (r.E fi) es) λm q=>oO
  (bO (Fm name (bH (h pos) 7) wa) λt ht=>bB (b7 t.1 2) λh5=>ok (a:=Ni t.1 t.2.2 mo m) (by
   obtain ⟨cl,nm,ad⟩:=t;cases (s9 ht).2;exact aD.Yr (s9 ht).1 ho q.1 q.2 Zr (Fp h1 q.2 h3 h4)))
  (gt (cBM name) λb hb=>ok (a:=eBM b.1 b.2 mo m) (by obtain ⟨id,q1,q2,q3,q4⟩:=hb.get;exact aD.bm q1 q2 q3 q4 ho q.1 Zr (Fp h1 q.2 h3 h4) q.2))
noncomputable def Zs(v:Expr)(pos:Pos)(sl:Expr):Cf (aD fi (.Subscript v sl pos)):=oO (ix _ _ λw=>Hv sl w λlo hi c U=>dQ c (gt (r.E fi v) λU hv=>gt (cP (r.E fi) lo) λU h1=>gt (cP (r.E fi) hi) λU h2=>ok (aD.cut hv h1 h2)) λU=>none)
 (bB (Cn sl) λns=>gt (r.E fi v) λU hv=>gt (r.E fi sl) λU h1=>ok (aD.item hv h1 (Co ns)))
noncomputable def T4(l rr:Expr)(op:tW)(pos:Pos):Cf (aD fi (.BinOp l op rr pos)):=cond (bH (h pos) 5) (ix _ _ λw=>fb l w λc U U=>ix _ _ λw=>lQ c w λU=>ix _ _ λw=>tH op w (gt (r.R fi rr) λU h=>ok (aD.IY h (Hz _).symm)))
 (gt (Zm op) λU hg=>gt (r.E fi l) λU hl=>gt (r.E fi rr) λU hr=>ok (aD.bin hg hl hr))
theorem Fq{value:Expr}{x:Str}{pos:Pos}(hb:PB value)(env:aV):eval (.Attribute value x pos) env=(do
   let o<-eval value env
   f' pos.atName
   let r<-g9 [o] (o5 o x true)
   x9 value o r
   pure r):=by
 show (eW value x env (eval value env)>>=_)=_;rw[hb]
noncomputable def cE0(e:Expr):Cf (aD fi e):=
 oO (ix _ _ λw=>bY e w λx p=>TY fi x p)<|
 oO (ix _ _ λw=>fb e w λc k p=>Qh fi k p c)<|
 oO (ix _ _ λw=>eu e w λf es ks pos=>ay ks (oO (ix _ _ λw=>bY f w λx p=>Qo h r fi x p pos es) (ix _ _ λw=>d8 f w λo x p=>Qp h r fi o x p pos es)) λU U=>none)<|
 oO (ix _ _ λw=>d8 e w λv U U=>gt (pb v) λU hb=>gt (r.E fi v) λU h=>gt (atIdx _) λU k=>ok (aD.attr h k.1 k.2 (Fq hb)))<|
 oO (ix _ _ λw=>qU e w λv sl p=>Zs r fi v p sl)<|
 oO (ix _ _ λw=>vN e w λl op rr p=>T4 h r fi l rr op p)<|
 oO (ix _ _ λw=>mA e w λop x p=>oO (ix _ _ λw=>F0 op w (gt (r.E fi x) λU h=>ok (aD.Ye OY h))) (ix _ _ λw=>nR op w (gt (r.Q fi (.UnaryOp .Not x p)) λU h=>ok (b_.e h))))<|
 oO (ix _ _ λw=>pg e w λt a b U=>gt (r.B fi t) λU h1=>gt (r.E fi a) λU h2=>gt (r.E fi b) λU h3=>ok (aD.ite h1 h2 h3))<|
 oO (ix _ _ λw=>iH e w λes U U=>gt (Qk (r.E fi) es) λU h=>ok (aD.tup h.1))<|
 oO (ix _ _ λw=>Expr.List.elim e w λes pos=>gt (Qk (r.E fi) es) λU q=>cond (bH (h pos) 1) (ok (aD.Yz q.1)) (ok (aD.list q.1)))<|
 oO (ix _ _ λw=>Expr.Dict.elim e w λks es pos=>gt (cPs (r.E fi) ks es) λps q=>bB (!ps.isEmpty&&b7 ps.length 15) λe=>cond (bH (h pos) 8) (ok (aD.Tn q (λe'=>by rw[e'] at e;cases e) (aa (an e).2))) (ok (aD.newD q (λe'=>by rw[e'] at e;cases e) (aa (an e).2))))<|
 oO (ix _ _ λw=>sv e w λelt gens scope pos=>gt (NS h r fi elt gens scope pos) λU q=>ok q.e)<|
 oO (ix _ _ λw=>yE e w λx c s U=>dQ s (bB (decide (c= -1)) λe=>gt (r.E fi x) λm h=>ok (a:=Th m) (by cases of_decide_eq_true e;exact aD.fmt h)) λU=>none)<|
 oO (ix _ _ λw=>Dd e w λes U=>ay es none λa es=>ay es none λb es=>gt (cJ (r.E fi) (a::b::es)) λU h=>ok (aD.joined h))<|
 oO (ix _ _ λw=>fA e w λl os rs p=>gt (r.Q fi (.Compare l os rs p)) λU h=>ok (b_.e h))<|
 ix _ _ λw=>nS e w λo vs p=>gt (r.Q fi (.BoolOp o vs p)) λU h=>ok (b_.e h)
noncomputable def cE(e:Expr):Cf (aD fi e):=cond (bH (h e.pos) 3) (ix _ _ λw=>d8 e w λv U U=>gt (pb v) λU hb=>gt (r.E fi v) λU h=>gt (atIdx _) λU k=>ok (aD.Lx (aD.attr h k.1 k.2 (Fq hb))))
 (cond (bH (h e.pos) 2) (gt (cE0 h r fi e) λU h=>ok (aD.BX h)) (cE0 h r fi e))
theorem iF.bin{fi:FI}{op:tW}{l r:Expr}{pos:Pos}{f:V->V->M V}{ml mr:ME}(hf:qN (dH op) f)(hl:iF fi l ml)(hr:aD fi r mr):iF fi (.BinOp l op r pos) (KR f ml mr):=
 λz U U U U U U n ht g=>vb (hl z n ht (g.seq λU U g U U n=>hr z n (g.seq λU U g U U n=>hf z n g)))
noncomputable def cR(e:Expr):Cf (iF fi e):=oO (ix _ _ λw=>vN e w λa o b U=>ix _ _ λw=>tH o w (gt (r.R fi a) λU h1=>gt (r.E fi b) λU h2=>ok (iF.bin zP h1 h2)))<|
 oO (ix _ _ λw=>eu e w λf es ks pos=>ay ks (ix _ _ λw=>d8 f w λo name apos=>ay es none λa r'=>ay r' none λb r'=>ay r' (ix _ _ λw=>fb a w λc U U=>ix _ _ λw=>lQ c w λys=>ix _ _ λw=>fb b w λc U U=>ix _ _ λw=>lQ c w λzs=>onl ys.cps.toList λy hy=>
  bB (bH apos.endLine pos.line&&qB name "replace") λb1=>gt (pb o) λU b2=>bB (b7 zs.cps.toList.length 14&&!eqT [y] zs.cps.toList) λb3=>gt (r.R fi o) λm hm=>ok (a:=NN y zs.cps.toList m) (by
   cases Fo (an b1).2;refine iF.replace hm ((Hz _).symm.trans (congrArg S hy)) (Hz _).symm ?_ (aa (an b3).1) (beq_iff_eq.mpr (dP (an b1).1)) (b2 _);exact beq_eq_false_iff_ne.mpr λe=>by
    have:=no (an b3).2;rw[Aq.mpr (EC e)] at this;cases this)) λU U=>none) λU U=>none) (gt (r.E fi e) λU h=>ok (aD.one h))
theorem T5:∀k<4,g_ (ah (iM k))=some (.type (iM k))/\ah (iM k)∈kR/\ah (iM k)≠"__name__"/\(ah (iM k)==("__debug__":Str))=false
 |0,_|1,_|2,_|3,_=>by decide+kernel
noncomputable def Zt(x:Str)(p pos:Pos)(es:List Expr):Cf (b_ fi (.Call (.Name x p) es [] pos)):=ay es none λa r'=>ay r' none λb r'=>ay r' (ix _ _ λw=>bY b w λty U=>bB (qB x "isinstance"&&(mR fi x&&(mR fi ty&&!isStar a))) λe=>gt (Zo ty (λk=>ah (iM k)) 3 4) λk hk=>gt (r.E fi a) λm hm=>ok (a:=Su k m) (by
   cases Fo (an e).1;cases hk.1;obtain ⟨g1,g2,g3,g4⟩:=T5 k (c8 hk.2);exact b_.isi k hm (eX (an (an e).2).1) (eX (an (an (an e).2).2).1) g1 g2 g3 g4 (no (an (an (an e).2).2).2))) λU U=>none
noncomputable def NT(l:Expr)(op:CmpOp)(b:Expr){β:MB->Prop}(k:∀{g ml mr},qO op g->aD fi l ml->aD fi b mr->nf op b=false->β (OS g ml mr)):Cf β:=bB (!nf op b) λhb=>gt (Qi op) λU hg=>gt (r.E fi l) λU hl=>gt (r.E fi b) λU hr=>ok (k hg hl hr (no hb))
section
variable(f:∀e,Cf (b_ fi e))(g:∀e,Cf (cC fi e))(pos:Pos)
noncomputable def T6(vs:List Expr):Cf (b_ fi (.BoolOp .And vs pos)):=lR (β:=λvs=>Cf (b_ fi (.BoolOp .And vs pos))) vs none λx vs=>lc (β:=λvs=>Cf (b_ fi (.BoolOp .And vs pos))->Cf (b_ fi (.BoolOp .And (x::vs) pos))) vs (λU=>gt (f x) λU h=>ok (b_.OV h)) λU U o=>gt (f x) λU h=>gt o λU q=>ok (b_.and h q)
noncomputable def Zu(vs:List Expr):Cf (b_ fi (.BoolOp .Or vs pos)):=lR (β:=λvs=>Cf (b_ fi (.BoolOp .Or vs pos))) vs none λx vs=>lc (β:=λvs=>Cf (b_ fi (.BoolOp .Or vs pos))->Cf (b_ fi (.BoolOp .Or (x::vs) pos))) vs (λU=>gt (f x) λU h=>ok (b_.Sb h)) λU U o=>gt (f x) λU h=>gt o λU q=>ok (b_.or h q)
noncomputable def T7(vs:List Expr):Cf (cC fi (.BoolOp .And vs pos)):=lR (β:=λvs=>Cf (cC fi (.BoolOp .And vs pos))) vs (ok cC.and_nil) λx U o=>gt (g x) λU h=>gt o λU q=>ok (cC.and h q)
noncomputable def Zv(vs:List Expr):Cf (cC fi (.BoolOp .Or vs pos)):=lR (β:=λvs=>Cf (cC fi (.BoolOp .Or vs pos))) vs (ok cC.or_nil) λx U o=>gt (g x) λU h=>gt o λU q=>ok (cC.or h q)
end
noncomputable def cQ(e:Expr):Cf (b_ fi e):=
 oO (ix _ _ λw=>fA e w λl os rs p=>oO (ay os none λop r'=>ay r' (ay rs none λb r'=>ay r' (NT r fi l op b λa b c d=>b_.cmp a b c d) λU U=>none) λU U=>none)
  (ay os none λBq r'=>ay r' none λvk r'=>ay r' (ay rs none λm r'=>ay r' none λb r'=>ay r' (bB (!lastMarks [Bq,vk] [m,b]) λhb=>gt (Qi Bq) λU h1=>gt (Qi vk) λU h2=>gt (r.E fi l) λU h3=>gt (r.E fi m) λU h4=>gt (r.E fi b) λU h5=>ok (b_.chain h1 h2 h3 h4 h5 (no hb))) λU U=>none) λU U=>none))<|
 oO (ix _ _ λw=>nS e w λo vs p=>xY o (T6 fi (r.Q fi) p vs) (Zu fi (r.Q fi) p vs))<|
 oO (ix _ _ λw=>mA e w λo x U=>ix _ _ λw=>nR o w (gt (r.Q fi x) λU h=>ok (b_.not h)))<|
 oO (ix _ _ λw=>eu e w λf es ks pos=>ay ks (ix _ _ λw=>bY f w λx p=>Zt r fi x p pos es) λU U=>none) (gt (r.E fi e) λU h=>ok (b_.of h))
noncomputable def cB(e:Expr):Cf (cC fi e):=
 oO (ix _ _ λw=>fA e w λl os rs p=>ay os none λop r'=>ay r' (ay rs none λb r'=>ay r' (NT r fi l op b λa b c d=>cC.cmp a b c d) λU U=>none) λU U=>none)<|
 oO (ix _ _ λw=>nS e w λo vs p=>xY o (T7 fi (r.B fi) p vs) (Zv fi (r.B fi) p vs))<|
 oO (ix _ _ λw=>mA e w λo x U=>ix _ _ λw=>nR o w (gt (r.B fi x) λU h=>ok (cC.not h)))<|
 oO (ix _ _ λw=>pg e w λt a b U=>gt (r.B fi t) λU h1=>gt (r.B fi a) λU h2=>gt (r.B fi b) λU h3=>ok (cC.ite h1 h2 h3)) (bB (zg e) λpt=>gt (r.E fi e) λU h=>ok (cC.plain O5 h (Ay pt)))
noncomputable abbrev s_(fi:FI)(x:Str):Bool:=ul fi x .local
theorem oy{fi:FI}{x:Str}(h:s_ fi x=true):fi.scope.names.lookup x=some .local:=qC h
noncomputable def nmQ(e:Expr):Cf λ(q:Str×Pos)=>e= .Name q.1 q.2:=ix _ _ λw=>bY e w λx p=>ok (a:=(x,p)) rfl
noncomputable def Qq(x:Str)(e:Expr):Cf λp=>e= .Name x p:=ix _ _ λw=>bY e w λy p=>bB (qB y x) λh=>ok (a:=p) (by cases Fo h;rfl)
noncomputable def zrP(e:Expr):Cf λp=>e= .Constant (.int 0) 0 p:=ix _ _ λw=>fb e w λc k p=>bB (decide (c= .int 0)&&decide (k=0)) λh=>ok (a:=p) (by cases of_decide_eq_true (an h).1;cases of_decide_eq_true (an h).2;rfl)
noncomputable def spP(e:Expr):Cf λ(q:Pos×Pos)=>e= .Attribute (.Name jj q.1) d9 q.2:=ix _ _ λw=>d8 e w λo x p=>gt (Qq jj o) λq hq=>bB (qB x d9) λh=>ok (a:=(q,p)) (by cases Fo h;cases hq;rfl)
noncomputable def lnP(e:Expr):Cf λ(q:Pos×Pos×Pos)=>e= .Call (.Name (ah "len") q.1) [.Name eN q.2.1] [] q.2.2:=ix _ _ λw=>eu e w λf es ks p=>ay ks (ay es none λa r'=>ay r' (gt (Qq (ah "len") f) λq hq=>gt (Qq eN a) λq' h=>ok (a:=(q,q',p)) (by cases h;cases hq;rfl)) λU U=>none) λU U=>none
noncomputable def Zw(e:Expr):Cf λps=>e=P_ ps:=ix _ _ λw=>pg e w λt u v p=>ix _ _ λw=>fA t w λa oa as pa=>ay as none λa' r'=>ay r' (ix _ _ λw=>fA u w λb ob bs pb=>ay bs none λb' r'=>ay r' (ix _ _ λw=>fA v w λc od cs pc=>ay cs none λc' r'=>ay r' none λd' r'=>ay r' (bB (decide (oa=[.GtE])&&(decide (ob=[.Eq])&&decide (od=[.LtE,.LtE]))) λh=>
 gt (Qq d9 a) λq0 h0=>gt (zrP a') λq1 h1=>gt (spP b) λq3 h3=>gt (Qq d9 b') λq5 h5=>gt (zrP c) λq7 h7=>gt (spP c') λq8 h8=>gt (lnP d') λq h9=>ok (a:=[q0,q1,pa,q3.1,q3.2,q5,pb,q7,q8.1,q8.2,q.1,q.2.1,q.2.2,pc,p]) (by
   rw[h0,h1,h3,h5,h7,h8,h9,of_decide_eq_true (an h).1,of_decide_eq_true (an (an h).2).1,of_decide_eq_true (an (an h).2).2];rfl)) λU U=>none) λU U=>none) λU U=>none
noncomputable def Zx(b:List Stmt)(pos:Pos)(h₀:ExceptHandler)(hs:List ExceptHandler):Cf (cb fi (.Try b (h₀::hs) [] [] pos)):=cond (bH (h pos) 6)
 (ay hs (Bj h₀ λt o b' hp=>dQ t none λt=>dQ o none λf=>ix _ _ λw=>bY t w λx np=>ay b' none λs r'=>ay r' (ix _ _ λw=>uG s w λo rp=>dQ o none λe=>bB (!fi.comp) λb1=>bB (qB x "TextFault"&&qB f jj) λb2=>bB (mR fi x&&mR fi "len") λb3=>bB (s_ fi eN&&(s_ fi d9&&s_ fi f)) λb4=>gt (Zw e) λps PR=>
   gt (r.S fi b) λm hm=>bO (vt eN fi.vars 0) λit h2=>bO (vt d9 fi.vars 0) λis h3=>bO (vt f fi.vars 0) λU h4=>ok (a:=Ao it is m) (by
    cases Fo (an b2).1;cases Fo (an b2).2;cases PR;exact cb.Qc (no b1) hm (DV h2) (oy (an b4).1) (DV h3) (oy (an (an b4).2).1) (DV h4) (oy (an (an b4).2).2) (eX (an b3).1) (eX (an b3).2))) λU U=>none) λU U=>none) (gt (r.S fi b) λU h=>ok (cb.TU h))
theorem DZ{value o:Expr}{x:Str}{p:Pos}{line:Nat}(env:aV):fU value (some (.Attribute o x p)) line env=pure false:=by cases value<;>rfl
theorem GQ{value o i:Expr}{p:Pos}{line:Nat}(env:aV):fU value (some (.Subscript o i p)) line env=pure false:=by cases value<;>rfl
theorem zj{value:Expr}{es:List Expr}{k:Nat}{p:Pos}{line:Nat}(env:aV):rG [.Tuple es k p] value line env=pure false:=by
 show fU value (some (.Tuple es k p)) line env=pure false;cases value<;>rfl
noncomputable def sStuck:MS:=λU U U=>.stuck
theorem cb.stuck{fi:FI}{t:Stmt}:cb fi t sStuck:=λU U U U U U U U g=>g.elim
noncomputable def Zy(value:Expr)(pos:Pos)(k:Nat)(p:Pos)(es:List Expr)(ab:List Str):Av fi value [.Tuple es k p]=some (some ab)->Cf (cb fi (.Assign [.Tuple es k p] value pos)):=
 ay es (λU=>none) λe1 es=>ay es (λU=>none) λe2 es=>ay es (ay ab (λU=>none) λa ab=>ay ab (λU=>none) λb ab=>ay ab (λhs=>
  gt (nmQ e1) λq h1=>gt (nmQ e2) λq' h2=>bO (DW fi q.1) λi hi=>bO (DW fi q'.1) λj hj=>bB (qB a q.1&&qB b q'.1) λe=>gt (r.E fi value) λm h=>ok (a:=BI m (Pw i j)) (by
   cases h1;cases h2;cases Fo (an e).1;cases Fo (an e).2;exact cb.Px h (qD hi) (qD hj) zj λU he=>w6 hs he)) λU U U=>none) λU U U=>none
noncomputable def ZC(t value:Expr)(pos:Pos):Cf (cb fi (.Assign [t] value pos)):=
 oO (ix _ _ λw=>bY t w λx p=>bO (DW fi x) λU hi=>bO (w5 fi value (some (.Name x p)) pos.line) λb=>A8 b
  (λhs=>gt (r.E fi value) λU h1=>ok (cb.Li h1 (qD hi) λU he=>um hs he))
  (λhs=>ix _ _ λw=>(sv (motive_1:=λvalue=>w5 fi value (some (.Name x p)) pos.line=some true->Cf (cb fi (.Assign [.Name x p] value pos))) value w λelt gens scope p' hs=>gt (NS h r fi elt gens scope p') λU q=>ok (q.s (qD hi) hs)) hs))<|
 oO (ix _ _ λw=>d8 t w λo x U=>gt (r.E fi value) λU h1=>gt (r.E fi o) λU h2=>gt (atIdx x) λU k=>ok (cb.Lk h1 h2 k.1 DZ))<|
 oO (ix _ _ λw=>qU t w λo i U=>gt (r.E fi value) λU h1=>gt (r.E fi o) λU h2=>gt (r.E fi i) λU h3=>ok (cb.PH h1 h2 h3 GQ))<|
 ix _ _ λw=>iH t w λes k p=>bO (Av fi value [.Tuple es k p]) λb=>dQ b
  (λhs=>gt (r.E fi value) λU h1=>gt (cT (r.E fi) (.Tuple es k p)) λU h2=>ok (cb.Pu h1 h2 zj λU he=>w6 hs he))
  λab hs=>Zy r fi value pos k p es ab hs
noncomputable def cS1(s:Stmt):Cf (cb fi s):=
 oO (ix _ _ λw=>Hl s w λts value pos=>ay ts none λt r'=>ay r' (ZC h r fi t value pos) λU U=>none)<|
 oO (ix _ _ λw=>Stmt.Expr.elim s w λe pos=>bO (w5 fi e none pos.line) λb=>A8 b (λhs=>gt (r.E fi e) λU h1=>ok (cb.expr h1 (λU=>ji) λU he=>um hs he)) (λU=>none))<|
 oO (ix _ _ λw=>uG s w λe U=>dQ e none λe=>gt (r.E fi e) λU h=>ok (cb.ret h))<|
 oO (ix _ _ λw=>Stmt.If.elim s w λt a b U=>gt (r.B fi t) λU h1=>gt (r.S fi a) λU h2=>gt (r.S fi b) λU h3=>ok (cb.ite h1 h2 h3))<|
 oO (ix _ _ λw=>Hw s w λt b e U=>ay e (bB (!fi.comp) λhc=>gt (r.B fi t) λU h1=>gt (r.S fi b) λU h2=>ok (cb.Pz (no hc) h1 h2)) λU U=>none)<|
 oO (ix _ _ λw=>Stmt.For.elim s w λtarget iter b e U=>ay e (bB (!fi.comp&&Ax iter) λhc=>gt (cI (r.E fi) h iter target) λU h1=>gt (cT (r.E fi) target) λU h2=>gt (r.S fi b) λU h3=>ok (cb.YH (no (an hc).1) h1 h2 h3 (qF (an hc).2))) λU U=>none)<|
 oO (ix _ _ λw=>Hx s w λe c U=>dQ e none λe=>dQ c (ix _ _ λw=>eu e w λuu es ks U=>ay ks (ay es none λa es=>ix _ _ λw=>bY uu w λx U=>cond (qB x "TextFault") (bB (qB x "TextFault"&&mR fi x) λb=>gt (Qk (r.E fi) (a::es)) λm h1=>ok (a:=IV m) (by cases Fo (an b).1;exact cb.raise h1.1 (eX (an b).2) h1.2)) (ok cb.stuck)) λU U=>none) λU=>none)<|
 ix _ _ λw=>Stmt.Try.elim s w λb hs e f pos=>ay hs none λh₀ hs=>ay e (ay f (Zx h r fi b pos h₀ hs) λU U=>none) λU U=>none
noncomputable def cSs(ts:List Stmt):Cf (eh fi ts):=lR (β:=λts=>Cf (eh fi ts)) ts (ok eh.nil) λt U o=>gt (cS1 h r fi t) λU h1=>gt o λU q=>ok (eh.cons h1 q)
noncomputable def comp(h:Hints):Nat->Rec
 |0=>⟨λU U=>none,λU U=>none,λU U=>none,λU U=>none,λU U=>none⟩
 |n+1=>⟨cE h (comp h n),cR (comp h n),cB (comp h n),cQ (comp h n),cSs h (comp h n)⟩
noncomputable def Qr(p:Str×bZ):Bool:=match p.2 with
 | .local=>true
 | .cell=>true
 |_=>false
noncomputable def Cp(scope:fV):List Str:=(scope.names.filter Qr).map (·.1)
noncomputable def ZD(a:List Str):∀b,Cf λ(_:Unit)=>a<+:b:=lR (β:=λa=>∀b,Cf λ(_:Unit)=>a<+:b) a (λU=>ok (a:=()) List.nil_prefix) λa U o b=>ay b none λb y=>bB (qB a b) λh=>gt (o y) λU q=>ok (a:=()) (by cases Fo h;exact (List.prefix_cons_inj a).mpr q)
noncomputable def fnM(h:Hints)(F:Fn):Cf (II F (Cp F.scope)):=bB (decide (F.scope.kind= .function)&&(decide (Cp F.scope).Nodup&&ND F)) λe=>gt (ZD F.names (Cp F.scope)) λU p=>
 gt ((comp h 60).S ⟨F.scope,Cp F.scope,false⟩ F.body) λm q=>ok (a:=⟨F.names.length,(Cp F.scope).length,m⟩) ⟨⟨of_decide_eq_true (an e).1,rfl,of_decide_eq_true (an (an e).2).1⟩,B6 (an (an e).2).2,rfl,rfl,p,q⟩
end
noncomputable def ZE:List (Nat×Nat×Nat×Nat×Nat):=[(33,20,33,22,1),(34,21,34,23,1),(124,14,124,21,1),(135,100,135,104,4),(137,11,137,84,5),(158,23,158,25,1),(158,27,158,42,1),(172,11,172,13,1),(173,24,173,33,3),(175,16,175,26,3),(205,36,205,38,1),(283,26,283,36,1),(285,26,285,28,1),(302,16,302,18,1),(315,21,315,23,1),(320,36,320,49,7),(322,15,322,28,7),(331,16,331,18,1),(357,69,357,82,7),(387,30,387,45,3),(387,47,387,57,3),(433,18,433,22,4),(448,11,448,49,1),(455,12,455,16,2),(458,68,458,72,4),(460,12,460,51,8),(461,60,461,64,4),(482,12,482,14,1),(493,16,493,18,1),(507,17,507,26,3),(507,28,507,38,3),(509,4,512,80,6),(555,38,555,63,9),(555,67,555,93,10),(560,11,560,71,9),(565,11,565,84,9),(567,11,567,76,9)]
noncomputable def hGo:List (Nat×Nat×Nat×Nat×Nat)->Pos->Nat
 |[],_=>0
 |q::r,p=>cond (bH q.1 p.line&&(bH q.2.1 p.col&&(bH q.2.2.1 p.endLine&&bH q.2.2.2.1 p.endCol))) q.2.2.2.2 (hGo r p)
noncomputable def hh:Hints:=hGo ZE
noncomputable def rdF(K:Frag)(f:Addr):Cf λm=>∃F vars,fnIn K f=some F/\II F vars m:=bO (fnIn K f) λF h=>gt (fnM hh F) λU q=>ok ⟨F,_,h,q⟩
inductive NU(s:Stmt):Unit->Prop
 |mk {p0 p1 ap tp cp ep:Pos}:s= .Expr (.Call (.Attribute (.Call (.Name "super" p0) [] [] p1) "__init__" ap) [.Name eN tp] [] cp) ep->(ap.endLine==cp.line)=true->NU s ()
noncomputable def first:∀s,Cf (NU s)
 | .Expr (.Call (.Attribute (.Call a [] [] _) b ap) [t] [] cp) _=>gt (Qq "super" a) λU h1=>gt (Qq eN t) λU h2=>bB (qB b "__init__"&&bH ap.endLine cp.line) λe=>ok (a:=()) (by cases h1;cases h2;cases Fo (an e).1;exact .mk rfl (beq_iff_eq.mpr (dP (an e).2)))
 |_=>none
theorem ZF:[eo,eN].Nodup:=by decide
noncomputable def Qs(K:Frag):Cf (LastOk K):=bO (n4 K 415) λfd h1=>bO (jb fd.body) λb=>match b with
 |[]=>λU=>none
 |s₀::rest=>λh2=>gt (first s₀) λU hf=>bB (decide (fd.params.args.map (·.arg)=[eo,eN])&&(decide (fd.scope.kind= .function)&&s_ ⟨fd.scope,[eo,eN],false⟩ eN)) λe=>
  gt ((comp hh 60).S ⟨fd.scope,[eo,eN],false⟩ rest) λm q=>ok (a:=m) (by
   cases hf with|mk e1 e2=>
   cases e1;exact ⟨fd,_,_,_,_,_,_,rest,h1,of_decide_eq_true (an e).1,h2,e2,⟨of_decide_eq_true (an (an e).2).1,rfl,ZF⟩,oy (an (an e).2).2,q⟩)
noncomputable def GR(W:Wd):View:=⟨W.w.params,λa=>W.base.get? a,[]⟩
noncomputable def zl(W:Wd)(fi:FI)(env:aV)(own:List Addr):Cx:={W:=W,fi:=fi,F:=λa=>W.base.get? a,outs:=[],env:=env,own:=own,hid:=[],low:=GR W}
section
theorem Qt(ok:W.Ok)(hs:s.heap=W.base)(fo:IG fi)(X:Entry fi W s h₁ env own):(zl W fi env own).Ok:=
 {
  w:=ok,scope:=X.scope,kind:=fo.kind,globals:=X.globals,builtins:=X.builtins,base:=λU U e=>e,outs:=λq hq=>absurd hq bu,frame:=λU=>X.frame,loc:=X.loc,cellOwn:=X.cellOwn,cellIn:=X.cellIn,cellHas:=X.cellHas,cellOff:=X.cellOff
  apart:=λa U=>bu,cellOne:=X.cellOne,vars:=fo.nd,above:=(hs.symm)▸X.new _ X.loc,hid:=λa h=>absurd h bu}
theorem Qu(hs:s.heap=W.base)(hg:s.gens=W.g/\s.os=W.o)(X:Entry fi W s h₁ env own)(hv:fh (zl W fi env own) (GR W) ρ h₁)(hp:ρ.length=fi.vars.length):St (zl W fi env own) (GR W) ρ [] {s with heap:=h₁,toks:=tk}:=
 {
  P:=⟨.refl _,rfl⟩,rest:=hg,kept:=(λa o e=>X.keep a o (by rw[hs];exact e)),know:=(λa o e=>X.keep a o (hs▸e)),outer:=λq hq=>absurd hq bu,hid:=λa h=>absurd h bu,priv:=λa ha=>⟨⟨(λa ha=>none_of λo q=>old_ne (isSome_of (by rw[hs];exact q)) (X.new a ha):∀a∈own,W.base.get? a=bc) a ha,(λa ha=>none_of λo q=>old_ne (isSome_of (by rw[hs];exact q)) (X.new a ha):∀a∈own,W.base.get? a=bc) a ha⟩,X.there a ha⟩,cell:=λi as o h=>nomatch h
  there:=λa h=>absurd h bu,nodup:=(au own).symm▸X.nd,vars:=hv,cells:=X.cells,plen:=hp,len:=rfl,store:=λi o h=>nomatch h}
end
theorem I6(ok:W.Ok)(hT:Cj W T)(hf:fnIn W.K f=some F)(fk:II F vars m)(hn:n<=100)(hs:s.heap=W.base)(hg:s.gens=W.g/\s.os=W.o)
  (r:o7 (GR W) vS vs) (PY:dI m (aQ T n) vs []= .ok (.d x) τ)
  (hQ:∀v s' B,RD B v x->Sub B s'.heap->(∀b o,s.heap.get? b=some o->s'.heap.get? b=some o)->s'.gens=s.gens->s'.os=s.os->Q v s'):aO (bS W.prog W.w) Bb (call (.ref f) vS) Q E s:=by
 have g:Go (dI m (aQ T n) vs []) (λy U=>y= .d x) NoX:=by rw[PY];exact rfl
 refine cps λP9 k9=>?_
 obtain ⟨hl,g⟩:=Go.OW (p:=vs.length=m.n) g;obtain ⟨fd,g1,g2,g3,g4,g5⟩:=wU hf;refine k9 ?_;refine gc (Fc (W:=W) ok (λb o e=>by rw[hs];exact e) (by decide) g1 g2 g3 (by rw[r.length,(hl.trans fk.n),g5]) (by rw[<-g4,<-g5];exact fk.Kr:y6 ⟨fd.scope,fd.params.args.map (·.arg),F.body⟩) λs₁ X=>?_)
 rw[<-g5] at X;have N:=wR (W:=W) (fi:=⟨F.scope,vars,false⟩) (gC (ot g1).2.1) g4 fk.Kr.nc X;obtain ⟨hp,tk,e⟩:=X.toInCall.same
 subst e;have st:=Qu (tk:=tk) hs hg N (fh.mk X.toInCall.ns (wQ (κ:=GR W) (c':=zl W ⟨F.scope,vars,false⟩ (cW fd s.heap.objs.size f) (s.heap.objs.size::(cW fd s.heap.objs.size f).cells.map (·.2))) (k:=m.k) rfl rfl fk.pre fk.Kr (hl.trans fk.n) g4.symm (by rw[g4];rfl) r X.cell)) (by
   show (vs.map some++jr (m.k - vs.length) bc).length=vars.length;rw[ae,af,pA,fk.k];exact fL ((hl.trans fk.n)▸fk.pre.length_le))
 have pJ:Ko (zl W ⟨F.scope,vars,false⟩ (cW fd s.heap.objs.size f) (s.heap.objs.size::(cW fd s.heap.objs.size f).cells.map (·.2))) n (Bb.deeper (cW fd s.heap.objs.size f)):=by
  refine ⟨rfl,rfl,qc rfl,?_,?_⟩
  ·show 1+claimMargin+1+4*n+4<=fc;exact ac (aB (aK (ci 4 hn) _) 4) (by decide)
  ·show 4+3+40*n+40<=ko;exact ac (aB (aK (ci 40 hn) _) 40) (by decide)
 have T8:∀{κ' ρ' σ' s'} (v:Value),St (zl W ⟨F.scope,vars,false⟩ (cW fd s.heap.objs.size f) (s.heap.objs.size::(cW fd s.heap.objs.size f).cells.map (·.2))) κ' ρ' σ' s'->RD κ'.B v x->Q v s':=λv st' rv=>hQ v _ _ rv st'.know (λb o e=>st'.kept b o (show W.base.get? b=some o by rw[<-hs];exact e)) (st'.rest.1.trans hg.1.symm) (st'.rest.2.trans hg.2.symm)
 refine fk.body (⟨_,n,Bb.deeper (cW fd s.heap.objs.size f),aQ T n,rfl,Qt ok hs fk.fo N,pJ,Qd hT n⟩:Z ⟨F.scope,vars,false⟩) (τ:=.nil) (.mk st trivial) (fR.fin g (λρ' σ g s n=>?_) (λy ρ' σ g v s n=>?_) λk ρ' g=>g.elim)
 ·cases n with|mk st' U=>exact T8 _ st' (by cases g;exact rfl)
 ·cases n with|mk st' h=>subst g;exact T8 v st' h.1
inductive Qn where
 |v (r:Res V)|m (r:M V)|b (r:Bool)|t (r:M Bool)|u (r:Res Bool)|s (r:RS)
structure Fa(α:Type) where
 l:α
 r:α
 h:l=r
inductive An where
 |v (n:Nat) (f:Fa (Res V))|m (n:Nat) (f:Fa (M V))|b (n:Nat) (f:Fa Bool)|t (n:Nat) (f:Fa (M Bool))|u (n:Nat) (f:Fa (Res Bool))|s (n:Nat) (f:Fa RS)
noncomputable def fq{α:Type}{l r:α}(h:l=r):Fa α:=⟨l,r,h⟩
noncomputable def An.V(n:Nat){l r:Res Internal.V}(h:l=r):An:=.v n (fq h)
noncomputable def An.M(n:Nat){l r:Internal.M Internal.V}(h:l=r):An:=.m n (fq h)
noncomputable def An.B(n:Nat){l r:Bool}(h:l=r):An:=.b n (fq h)
noncomputable def An.T(n:Nat){l r:Internal.M Bool}(h:l=r):An:=.t n (fq h)
noncomputable def An.S(n:Nat){l r:RS}(h:l=r):An:=.s n (fq h)
noncomputable def An.q:An->Qn
 | .v _ f=>.v f.l
 | .m _ f=>.m f.l
 | .b _ f=>.b f.l
 | .t _ f=>.t f.l
 | .u _ f=>.u f.l
 | .s _ f=>.s f.l
noncomputable abbrev As:=List An
noncomputable abbrev Pn(ω:Type):=Option (List Qn×ω)
noncomputable def push{ω:Type}(q:Qn)(p:Pn ω):Pn ω:=p.bind λp=>some (q::p.1,p.2)
noncomputable abbrev G{ω:Type}(as:As)(R:ω)(p:Pn ω):Prop:=p=some (as.map An.q,R)
section
variable{ω α:Type}
noncomputable abbrev Kn(ω α:Type):=α->Store->Nat->As->Pn ω
noncomputable abbrev Kx(ω:Type):=Int->As->Pn ω
noncomputable def rV(e:Res α)(n:Nat)(as:As)(k:Kn ω α)(kx:Kx ω):Pn ω:=match e with
 | .ok v τ=>k v τ n as
 | .exc i=>kx i as
 | .stuck=>none
noncomputable def LL(f:M V)(σ:Store)(n:Nat)(as:As)(k:Kn ω V)(kx:Kx ω):Pn ω:=match as with
 |[]=>rV (f σ) (n+1) [] k kx
 |a::t=>match a with
  | .v m q=>cond (bH n m) (push (.v (f σ)) (rV q.r 0 t k kx)) (rV (f σ) (n+1) (a::t) k kx)
  | .m m q=>cond (bH n m) (push (.m f) (rV (q.r σ) 0 t k kx)) (rV (f σ) (n+1) (a::t) k kx)
  |_=>rV (f σ) (n+1) (a::t) k kx
noncomputable def vu(b:Bool)(τ:Store)(n:Nat)(as:As)(k:Kn ω Bool):Pn ω:=match as with
 |[]=>k b τ (n+1) []
 |a::t=>match a with
  | .b m q=>cond (bH n m) (push (.b b) (k q.r τ 0 t)) (k b τ (n+1) (a::t))
  |_=>k b τ (n+1) (a::t)
noncomputable def Qv(f:M Bool)(σ:Store)(n:Nat)(as:As)(k:Kn ω Bool)(kx:Kx ω):Pn ω:=match as with
 |[]=>rV (f σ) (n+1) [] (λb τ n as=>vu b τ n as k) kx
 |a::t=>match a with
  | .t m q=>cond (bH n m) (push (.t f) (rV (q.r σ) 0 t (λb τ n as=>vu b τ n as k) kx)) (rV (f σ) (n+1) (a::t) (λb τ n as=>vu b τ n as k) kx)
  | .u m q=>cond (bH n m) (push (.u (f σ)) (rV q.r 0 t (λb τ n as=>vu b τ n as k) kx)) (rV (f σ) (n+1) (a::t) (λb τ n as=>vu b τ n as k) kx)
  |_=>rV (f σ) (n+1) (a::t) (λb τ n as=>vu b τ n as k) kx
theorem qG{q:Qn}{a:An}{p:Pn ω}(h:G (a::as) R (push q p)):q=a.q/\G as R p:=by
 cases p with
 |none=>cases h
 |some p=>
  obtain ⟨l,r⟩:=p;cases h;exact ⟨rfl,rfl⟩
noncomputable abbrev RW(T:Res α->Prop)(R:ω)(k:Kn ω α):Prop:=∀v τ n as,G as R (k v τ n as)->T (.ok v τ)
noncomputable abbrev XK(T:Res α->Prop)(R:ω)(kx:Kx ω):Prop:=∀i as,G as R (kx i as)->T (.exc i)
theorem nB(hk:RW T R k)(hx:XK T R kx)(h:G as R (rV e n as k kx)):T e:=by
 cases e with
 |stuck=>cases h
 |ok v τ=>exact hk _ _ _ _ h
 |exc i=>exact hx _ _ h
theorem Az{f:M V}{σ:Store}{T:Res V->Prop}{k:Kn ω V}(hk:RW T R k)(hx:XK T R kx)(h:G as R (LL f σ n as k kx)):T (f σ):=by
 cases as with
 |nil=>exact nB hk hx h
 |cons a t=>cases a with
  |v m q=>
   have h:G (_::t) R (cond (bH n m) (push (.v (f σ)) (rV q.r 0 t k kx)) (rV (f σ) (n+1) (_::t) k kx)):=h;cases hb:bH n m<;>rw [hb] at h
   ·exact nB hk hx h
   ·refine (qG h).elim λh1 h2=>?_
    injection h1 with h1
    simp only [h1.trans q.h];exact nB hk hx h2
  |m m q=>
   have h:G (_::t) R (cond (bH n m) (push (.m f) (rV (q.r σ) 0 t k kx)) (rV (f σ) (n+1) (_::t) k kx)):=h;cases hb:bH n m<;>rw [hb] at h
   ·exact nB hk hx h
   ·refine (qG h).elim λh1 h2=>?_
    injection h1 with h1
    rw[h1.trans q.h];exact nB hk hx h2
  |_=>exact nB hk hx h
theorem LN{b:Bool}{τ:Store}{T:Res Bool->Prop}{k:Kn ω Bool}(hk:RW T R k)(h:G as R (vu b τ n as k)):T (.ok b τ):=by
 cases as with
 |nil=>exact hk _ _ _ _ h
 |cons a t=>cases a with
  |b m q=>
   have h:G (_::t) R (cond (bH n m) (push (.b b) (k q.r τ 0 t)) (k b τ (n+1) (_::t))):=h;cases hb:bH n m<;>rw [hb] at h
   ·exact hk _ _ _ _ h
   ·refine (qG h).elim λh1 h2=>?_
    injection h1 with h1
    exact (h1.trans q.h)▸hk _ _ _ _ h2
  |_=>exact hk _ _ _ _ h
theorem Fs{f:M Bool}{σ:Store}{T:Res Bool->Prop}{k:Kn ω Bool}(hk:RW T R k)(hx:XK T R kx)(h:G as R (Qv f σ n as k kx)):T (f σ):=by
 have hk:RW T R (λb τ n as=>vu b τ n as k):=λU U U U h=>LN hk h
 cases as with
 |nil=>exact nB hk hx h
 |cons a t=>cases a with
  |t m q=>
   have h:G (_::t) R (cond (bH n m) (push (.t f) (rV (q.r σ) 0 t (λb τ n as=>vu b τ n as k) kx)) (rV (f σ) (n+1) (_::t) (λb τ n as=>vu b τ n as k) kx)):=h
   cases hb:bH n m<;>rw [hb] at h
   ·exact nB hk hx h
   ·refine (qG h).elim λh1 h2=>?_
    injection h1 with h1
    simp only [h1.trans q.h];exact nB hk hx h2
  |u m q=>
   have h:G (_::t) R (cond (bH n m) (push (.u (f σ)) (rV q.r 0 t (λb τ n as=>vu b τ n as k) kx)) (rV (f σ) (n+1) (_::t) (λb τ n as=>vu b τ n as k) kx)):=h
   cases hb:bH n m<;>rw [hb] at h
   ·exact nB hk hx h
   ·refine (qG h).elim λh1 h2=>?_
    injection h1 with h1
    simp only [h1.trans q.h];exact nB hk hx h2
  |_=>exact nB hk hx h
end
structure X(α:Type) where
 m:nj->Env->M α
 x:{ω:Type}->nj->Env->Store->Nat->As->Kn ω α->Kx ω->Pn ω
 ok:∀{ω:Type} {C ρ σ n as} {k:Kn ω α} {kx:Kx ω} {R:ω} {T:Res α->Prop},RW T R k->XK T R kx->G as R (x C ρ σ n as k kx)->T (m C ρ σ)
noncomputable abbrev XE:=X V
noncomputable abbrev XB:=X Bool
noncomputable abbrev XA:=X (List V)
noncomputable def xR{α:Type}(m:nj->Env->M α):X α:=⟨m,λC ρ σ n as k kx=>rV (m C ρ σ) n as k kx,λhk hx h=>nB hk hx h⟩
noncomputable def xV(m:ME):XE:=⟨m,λC ρ σ n as k kx=>LL (m C ρ) σ n as k kx,λhk hx h=>Az hk hx h⟩
noncomputable def xT(m:MB):XB:=⟨m,λC ρ σ n as k kx=>Qv (m C ρ) σ n as k kx,λhk hx h=>Fs hk hx h⟩
noncomputable def xB{α β:Type}(a:X α)(f:α->X β):X β:=⟨λC ρ=>(a.m C ρ).bind λv=>(f v).m C ρ,λC ρ σ n as k kx=>a.x C ρ σ n as (λv τ n as=>(f v).x C ρ τ n as k kx) kx,
 λ{_ C ρ _ _ _ _ _ _ T} hk hx h=>a.ok (T:=λr=>T (r.bind λv=>(f v).m C ρ)) (λv U U U h=>(f v).ok hk hx h) hx h⟩
noncomputable def xl(i:Nat):XE:=xR (Bo i)
noncomputable def xD(d:D):XE:=xR (eD d)
noncomputable def xw(v:V):XE:=xR (eV v)
noncomputable def xi(i:Int):XE:=xD (.int i)
noncomputable def xt(s:String):XE:=xD (.str (tx s))
noncomputable def xn:XE:=xD .none
noncomputable def x1(f:V->M V)(a:XE):XE:=xB a λv=>xV λU U=>f v
noncomputable def x2(f:V->V->M V)(a b:XE):XE:=xB a λv=>xB b λw=>xV λU U=>f v w
noncomputable def ZG:XA:=xR aNil
noncomputable def T9(a:XE)(r:XA):XA:=xB a λv=>xB r λvs=>xR λU U=>M.ret (v::vs)
noncomputable def xA:List XE->XA
 |[]=>ZG
 |a::r=>T9 a (xA r)
noncomputable def xC(q:Bool)(a b:X α):X α:=⟨λC ρ=>cond q (a.m C ρ) (b.m C ρ),λC ρ σ n as k kx=>cond q (a.x C ρ σ n as k kx) (b.x C ρ σ n as k kx),by cases q;exact b.ok;exact a.ok⟩
noncomputable def pU(t:XB)(a b:XE):XE:=xB t λq=>xC q a b
noncomputable def tn(t:XB):XB:=xB t λq=>xR λU U=>M.ret (!q)
noncomputable def ta(l r:XB):XB:=xB l λq=>xC q r (xR λU U=>M.ret false)
noncomputable def to(l r:XB):XB:=xB l λq=>xC q (xR λU U=>M.ret true) r
noncomputable def tq(q:Bool):XB:=xR (OR q)
noncomputable def t1(f:V->M Bool)(a:XE):XB:=xB a λv=>xT λU U=>f v
noncomputable def t2(f:V->V->M Bool)(a b:XE):XB:=xB a λv=>xB b λw=>xT λU U=>f v w
noncomputable def xe(t:XB):XE:=xB t λq=>xR λU U=>M.ret (.d (.bool q))
noncomputable def T_(f g:V->V->M Bool)(l m r:XE):XB:=xB l λa=>xB m λb=>xB (xT λU U=>f a b) λq=>xC q (xB r λd=>xT λU U=>g b d) (xR λU U=>M.ret false)
noncomputable def xp(m:List XE):XE:=xB (xA m) λl=>xV λU U=>if l.length<=lim then M.ret (HT l) else M.no
noncomputable def xL(m:List XE):XE:=xB (xA m) λl=>xV λU U=>sF (lD l) λds=>pN l (M.ret (.d (.list ds)))
noncomputable def xN(m:List XE):XE:=xB (xA m) λl=>xV λU U=>if l.length<=lim then M.new (.list l) else M.no
noncomputable def xu(o a b:XE):XE:=xB o λx=>xB a λl=>xB b λh=>xV λU U=>mJ x l h
noncomputable def xc(f:Nat)(m:List XE):XE:=xB (xA m) λvs=>xV λC U=>C.call f vs
noncomputable def xf(op:List V->M V)(m:List XE):XE:=xB (xA m) λvs=>xV λU U=>op vs
noncomputable def xa(k:Nat)(m:XE):XE:=x1 (BD k) m
theorem GS{α β:Type}{c:Nat}{v:V}{σ:Store}{m:M α}{q:β}:eH c v (M.ret q) σ= .stuck\/(eH c v (M.ret q) σ= .ok q σ/\eH c v m σ=m σ):=by
 cases v with
 |obj i=>
  show O.eH σ[i]? (λc' U=>if c'=c then M.ret q else M.no) M.no σ=_\/(O.eH σ[i]? (λc' U=>if c'=c then M.ret q else M.no) M.no σ=_/\O.eH σ[i]? (λc' U=>if c'=c then m else M.no) M.no σ=m σ)
  cases σ[i]? with
  |none=>exact .inl rfl
  |some o=>cases o with
   |inst c' l=>
    show (if c'=c then M.ret q else M.no) σ=_\/((if c'=c then M.ret q else M.no) σ=_/\(if c'=c then m else M.no) σ=m σ)
    by_cases h:c'=c
    ·rw[if_pos h,if_pos h];exact .inr ⟨rfl,rfl⟩
    ·rw[if_neg h];exact .inl rfl
   |_=>exact .inl rfl
 |_=>exact .inl rfl
noncomputable def Ua{α:Type}(c:Nat)(v:V)(a:X α):X α:=⟨λC ρ=>eH c v (a.m C ρ),λC ρ σ n as k kx=>Qv (eH c v (M.ret true)) σ n as (λU τ n as=>a.x C ρ τ n as k kx) kx,
 λ{_ C ρ σ _ _ _ _ R T} hk hx h=>by
  refine Fs (T:=λr=>eH c v (M.ret true) σ=r->T (eH c v (a.m C ρ) σ)) (λb τ n as h e=>?_) (λi as U e=>?_) h rfl<;>rcases GS (m:=a.m C ρ) with q|⟨q1,q2⟩
  ·rw[q] at e;cases e
  ·rw[q1] at e;cases e;rw[q2];exact a.ok hk hx h
  ·rw[q] at e;cases e
  ·rw[q1] at e;cases e⟩
noncomputable def xTy(c:Nat)(v:V)(a:XE):XE:=⟨λC ρ=>ww c v (a.m C ρ),λC ρ σ n as k kx=>LL (ww c v (M.ret v)) σ n as (λU τ n as=>a.x C ρ τ n as k kx) kx,
 λ{_ C ρ σ _ _ _ _ R T} hk hx h=>by
  refine Az (T:=λr=>ww c v (M.ret v) σ=r->T (ww c v (a.m C ρ) σ)) (λb τ n as h e=>?_) (λi as U e=>?_) h rfl<;>unfold ww at e⊢<;>by_cases q:Pf v σ=some c
  ·rw[if_pos q] at e⊢;cases e;exact a.ok hk hx h
  ·rw[if_neg q] at e;cases e
  ·rw[if_pos q] at e;cases e
  ·rw[if_neg q] at e;cases e⟩
noncomputable def xm(cl f:Nat)(o:XE)(m:List XE):XE:=xB o λv=>Ua cl v (xB (xA m) λls=>xV λC U=>C.call f (v::ls))
noncomputable def xM(k:Nat)(f:V->List V->M V)(o:XE)(m:List XE):XE:=xB o λv=>xTy k v (xB (xA m) λls=>xV λU U=>f v ls)
noncomputable def ti(k:Nat)(m:XE):XB:=t1 (Ss k) m
noncomputable abbrev Ks(ω:Type):=Fl->Env->Store->Nat->As->Pn ω
noncomputable abbrev Ky(ω:Type):=Int->Env->As->Pn ω
noncomputable def rS{ω:Type}(e:RS)(n:Nat)(as:As)(k:Ks ω)(kx:Ky ω):Pn ω:=match e with
 | .ok f ρ τ=>k f ρ τ n as
 | .exc i ρ=>kx i ρ as
 | .stuck=>none
noncomputable def Ub{ω:Type}(e:RS)(n:Nat)(as:As)(k:Ks ω)(kx:Ky ω):Pn ω:=match as with
 |[]=>rS e (n+1) [] k kx
 |a::t=>match a with
  | .s m q=>cond (bH n m) (push (.s e) (rS q.r 0 t k kx)) (rS e (n+1) (a::t) k kx)
  |_=>rS e (n+1) (a::t) k kx
noncomputable abbrev ZH{ω:Type}(T:RS->Prop)(R:ω)(k:Ks ω):Prop:=∀f ρ τ n as,G as R (k f ρ τ n as)->T (.ok f ρ τ)
noncomputable abbrev ZI{ω:Type}(T:RS->Prop)(R:ω)(kx:Ky ω):Prop:=∀i ρ as,G as R (kx i ρ as)->T (.exc i ρ)
theorem Cq{ω:Type}{as:As}{R:ω}{n:Nat}{e:RS}{T:RS->Prop}{k:Ks ω}{kx:Ky ω}(hk:ZH T R k)(hx:ZI T R kx)(h:G as R (rS e n as k kx)):T e:=by
 cases e with
 |stuck=>cases h
 |ok f ρ τ=>exact hk _ _ _ _ _ h
 |exc i ρ=>exact hx _ _ _ h
theorem LO{ω:Type}{as:As}{R:ω}{n:Nat}{e:RS}{T:RS->Prop}{k:Ks ω}{kx:Ky ω}(hk:ZH T R k)(hx:ZI T R kx)(h:G as R (Ub e n as k kx)):T e:=by
 cases as with
 |nil=>exact Cq hk hx h
 |cons a t=>cases a with
  |s m q=>
   have h:G (_::t) R (cond (bH n m) (push (.s e) (rS q.r 0 t k kx)) (rS e (n+1) (_::t) k kx)):=h;cases hb:bH n m<;>rw [hb] at h
   ·exact Cq hk hx h
   ·refine (qG h).elim λh1 h2=>?_
    injection h1 with h1
    simp only [h1.trans q.h];exact Cq hk hx h2
  |_=>exact Cq hk hx h
structure XS where
 m:MS
 x:{ω:Type}->nj->Env->Store->Nat->As->Ks ω->Ky ω->Pn ω
 ok:∀{ω:Type} {C ρ σ n as} {k:Ks ω} {kx:Ky ω} {R:ω} {T:RS->Prop},ZH T R k->ZI T R kx->G as R (x C ρ σ n as k kx)->T (m C ρ σ)
noncomputable def xS(m:MS):XS:=⟨m,λC ρ σ n as k kx=>Ub (m C ρ σ) n as k kx,λhk hx h=>LO hk hx h⟩
noncomputable def zR(m:MS):XS:=⟨m,λC ρ σ n as k kx=>rS (m C ρ σ) n as k kx,λhk hx h=>Cq hk hx h⟩
noncomputable def zB{α:Type}(a:X α)(f:α->XS):XS:=⟨λC ρ σ=>RS.nk (a.m C ρ σ) ρ λv τ=>(f v).m C ρ τ,λC ρ σ n as k kx=>a.x C ρ σ n as (λv τ n as=>(f v).x C ρ τ n as k kx) (λi as=>kx i ρ as),
 λ{_ C ρ _ _ _ _ _ _ T} hk hx h=>a.ok (T:=λr=>T (RS.nk r ρ λv τ=>(f v).m C ρ τ)) (λv U U U h=>(f v).ok hk hx h) (λi as h=>hx i ρ as h) h⟩
noncomputable def Uc:XS:=zR sNil
noncomputable def Ud(a b:XS):XS:=⟨Pp a.m b.m,λC ρ σ n as k kx=>a.x C ρ σ n as (λf ρ τ n as=>match f with
  | .next=>b.x C ρ τ n as k kx
  |f=>k f ρ τ n as) kx,
 λ{_ C ρ _ _ _ _ _ _ T} hk hx h=>a.ok (T:=λr=>T (r.bind (b.m C))) (λf ρ τ n as h=>by
  cases f with
  |next=>exact b.ok (T:=T) hk hx h
  |_=>exact hk _ _ _ _ _ h) hx h⟩
noncomputable def zC(q:Bool)(a b:XS):XS:=⟨λC ρ σ=>cond q (a.m C ρ σ) (b.m C ρ σ),λC ρ σ n as k kx=>cond q (a.x C ρ σ n as k kx) (b.x C ρ σ n as k kx),by cases q;exact b.ok;exact a.ok⟩
noncomputable def zz:List XS->XS
 |[]=>Uc
 |a::r=>Ud a (zz r)
noncomputable def zi(t:XB)(a b:List XS):XS:=zB t λq=>zC q (zz a) (zz b)
noncomputable def zr(a:XE):XS:=zB a λv=>zR λU ρ τ=>.ok (.ret v) ρ τ
noncomputable def ze(a:XE):XS:=zB a λU=>zR λU ρ τ=>.ok .next ρ τ
noncomputable def zx(a:List XE):XS:=zB (xB (xA a) λls=>xV λU U=>TP ls) λU=>zR λU U U=>.stuck
noncomputable abbrev XT:=V->XS
noncomputable def uv(i:Nat):XT:=λv=>zR (BH i v)
noncomputable def ua(k:Nat)(o:XE):XT:=λv=>zB o λov=>xS λU ρ τ=>toAttr k ov v ρ τ
noncomputable def u2(i j:Nat):XT:=λv=>xS (Pw i j v)
noncomputable def za(a:XE)(t:XT):XS:=zB a t
noncomputable def mT(t:XT):MT:=λv=>(t v).m
noncomputable def XM:List XT->List V->XS
 |[],[]=>Uc
 |t::ts,v::vs=>Ud (t v) (XM ts vs)
 |_,_=>zR sStuck
theorem LP(h:itemsOf v=some xs)(hl:xs.length=ts.length):Dq ts v=wz ts xs:=by
 funext C ρ σ
 unfold Dq;exact h▸if_pos hl
theorem Ue(ts:List XT):∀xs:List V,(XM ts xs).m=wz (ts.map mT) xs:=by
 induction ts with
 |nil=>intro xs;cases xs<;>rfl
 |cons t ts ih=>intro xs;cases xs with
  |nil=>rfl
  |cons x xs=>exact congrArg (Pp (t x).m) (ih xs)
noncomputable def upX{ω:Type}(ts:List XT)(k:List V->Pn ω):Option (List V)->Pn ω
 |some xs=>cond (bH xs.length ts.length) (k xs) none
 |none=>none
noncomputable def up(ts:List XT):XT:=λv=>⟨Dq (ts.map mT) v,λC ρ σ n as k kx=>upX ts (λxs=>(XM ts xs).x C ρ σ n as k kx) (itemsOf v),λ{_ C ρ σ _ _ _ _ _ T} hk hx h=>by
  show T (Dq (ts.map mT) v C ρ σ);cases e:itemsOf v with
  |none=>rw [e] at h;cases h
  |some xs=>
   rw[e] at h;have h:G _ _ (cond (bH xs.length ts.length) _ none):=h;cases hb:bH xs.length ts.length with
   |false=>rw [hb] at h;cases h
   |true=>
    rw[hb] at h;rw[LP e ((dP hb).trans (af mT).symm),<-Ue];exact (XM ts xs).ok hk hx h⟩
noncomputable abbrev XI:=XA
noncomputable def iE(a:XE):XI:=xB a λv=>xR λU U=>Ih v
noncomputable def iS(a:XE):XI:=xB a λv=>xR λU U=>signsOf v
noncomputable def iR(a:List XE):XI:=xB (xA a) λv=>xR λU U=>qA v
noncomputable def iN(a:List XE):XI:=xB (xA a) λv=>xR λU U=>Im v
noncomputable def iZ(a:List XE):XI:=xB (xA a) λv=>xR λU U=>Nu v
noncomputable def zw(t:XB)(b:XS):XS:=xS (om t.m b.m)
noncomputable def zf(i:XI)(t:XT)(b:XS):XS:=zB i λxs=>xS (jf xs (mT t) b.m)
noncomputable def xk(i:XI)(t:XT)(b:MC)(cap:List (Option Nat)):XE:=xV (s6 i.m (mT t) b cap)
noncomputable def bE(t:XB)(a:XE):MC:=E5 t.m a.m
noncomputable def bN(i:XI)(t:XT)(b:MC):MC:=E6 i.m (mT t) b
noncomputable def xF(a:XE):XE:=xB a λv=>xV λU U=>E7 v
noncomputable def xz(a:XE):XE:=xB a λv=>xV λU U=>BX v
noncomputable def RX(k:Nat)(a:XE):XE:=xB a λv=>xV λU U=>BY k v
noncomputable def xr(y:Nat)(z:Tx)(a:XE):XE:=xB a λv=>xV λU U=>IX y z v
noncomputable def XN(f:Nat)(a:List XE):XE:=xB (xA a) λv=>xV λC U=>uV (C.call f) v
noncomputable def zt(a:XS):XS:=⟨TS a.m,λC ρ σ n as k kx=>a.x C ρ σ n as k λU U U=>none,λ{_ C ρ σ _ _ _ _ _ T} hk hx h=>a.ok (T:=λr=>T (P7 r)) hk (λi ρ as h=>by cases h) h⟩
noncomputable def zk(i j:Nat)(a:List XS):XS:=xS (Ao i j (zz a).m)
noncomputable def zK(a o k:XE):XS:=zB a λx=>zB o λov=>zB k λkv=>xS λU=>toKey ov kv x
noncomputable def xND(ps:List (Tx×XE)):XE:=xV (IA (ps.map λp=>(p.1,p.2.m)))
noncomputable def xNF(ps:List (Tx×XE)):XE:=xV (IC (ps.map λp=>(p.1,p.2.m)))
noncomputable def xcG(f g k:Nat):XE:=xV (vW f g k)
noncomputable def LQ(acc:Tx)(v:V):M V:=match v with
 | .d (.str y)=>if (acc++y).length<=lim then M.ret (.d (.str (acc++y))) else M.no
 |_=>M.no
set_option tactic.hygienic true in
noncomputable def Ug(acc:Tx)(v:V)(f:Tx->X Tx):X Tx:=⟨λC ρ=>E8 acc (λa=>(f a).m C ρ) v,λC ρ σ n as k kx=>LL (LQ acc v) σ n as (λw τ n as=>match w with
  | .d (.str a)=>(f a).x C ρ τ n as k kx
  |_=>none) kx,
 λ{_ C ρ σ _ _ _ _ R T} hk hx h=>by
  refine Az (T:=λr=>LQ acc v σ=r->T (E8 acc (λa=>(f a).m C ρ) v σ)) (λw τ n as h e=>?_) (λi as U e=>?_) h rfl<;>unfold LQ at e<;>unfold E8<;>split at e
  ·rename_i y
   by_cases q:(acc++y).length<=lim
   ·rw[if_pos q] at e;cases e;show T ((if _ then _ else _:M Tx) σ)
    rw[if_pos q];exact (f _).ok hk hx h
   ·rw[if_neg q] at e;cases e
  ·cases e
  ·rename_i y
   by_cases q:(acc++y).length<=lim
   ·rw[if_pos q] at e;cases e
   ·rw[if_neg q] at e;cases e
  ·cases e⟩
noncomputable def xJ:List XE->Tx->X Tx
 |[],acc=>xR λU U=>M.ret acc
 |p::r,acc=>xB p λv=>Ug acc v λa=>xJ r a
noncomputable def xj(ps:List XE):XE:=xB (xJ ps []) λx=>xR λU U=>M.ret (.d (.str x))
noncomputable def zy(x:XS):XS:=xS x.m
noncomputable def X119:=zz [za (xN []) (ua 0 (xl 0)),za (xN []) (ua 1 (xl 0)),za (xp [xt "satisfy",xn]) (ua 2 (xl 0)),za (xp []) (ua 3 (xl 0))]
noncomputable def Uh:MF:=⟨1,1,X119.m⟩
noncomputable def X126:=zz [ze (xM 1 mAppend (xa 0 (xl 0)) [xp [xl 1,xl 2]]),zr (x2 vSub (xf bLen [xa 0 (xl 0)]) (xi 1))]
noncomputable def Ui:MF:=⟨3,3,X126.m⟩
noncomputable def X133:=zz [ze (xM 1 mAppend (xa 1 (xl 0)) [xl 1])]
noncomputable def Uj:MF:=⟨2,2,X133.m⟩
noncomputable def X140:=zz [zr (xf bLen [xa 0 (xl 0)])]
noncomputable def Uk:MF:=⟨1,1,X140.m⟩
noncomputable def X147:=zz [zr (x2 vItem (x2 vItem (xa 0 (xl 0)) (xl 1)) (xi 1))]
noncomputable def Ul:MF:=⟨2,2,X147.m⟩
noncomputable def X161:=zz [zr (xe (ta (ti 0 (xl 0)) (tn (ti 1 (xl 0)))))]
noncomputable def Um:MF:=⟨1,1,X161.m⟩
noncomputable def K166:=bE (xR bTrue) (xc 161 [xl 0])
noncomputable def X166:=zz [zr (xe (ta (ti 2 (xl 0)) (t1 vTrue (xf bAll [xk (iE (xl 0)) (uv 0) K166 [none]]))))]
noncomputable def Un:MF:=⟨1,1,X166.m⟩
noncomputable def X173:=zz [zr (xe (ta (t1 vTrue (xc 161 [xl 0])) (T_ vLe vLt (xi 0) (xl 0) (xl 1))))]
noncomputable def Uo:MF:=⟨2,2,X173.m⟩
noncomputable def K178:=bE (xR bTrue) (xc 173 [xl 0,xl 1])
noncomputable def K178a:=bE (xR bTrue) (xc 166 [xl 0])
noncomputable def X178:=zz [zi (t2 vEq (xl 0) (xt "x")) [zr (xc 173 [xl 1,xl 2])] [],zi (t2 vEq (xl 0) (xt "X")) [zr (xe (ta (ti 2 (xl 1)) (t1 vTrue (xf bAll [xk (iE (xl 1)) (uv 0) K178 [none,some 2]]))))] [],zi (t2 vEq (xl 0) (xt "n")) [zr (xc 161 [xl 1])] [],zi (t2 vEq (xl 0) (xt "N")) [zr (xc 166 [xl 1])] [],zi (t2 vEq (xl 0) (xt "R")) [zr (xe (ta (ti 2 (xl 1)) (t1 vTrue (xf bAll [xk (iE (xl 1)) (uv 0) K178a [none]]))))] [],zi (t2 vEq (xl 0) (xt "s")) [zr (xe (ta (ti 3 (xl 1)) (t2 vIn (xl 1) (xD (.tup [.str (tx "bounds"),.str (tx "values")])))))] [],zr (xe (ta (ti 2 (xl 1)) (ta (t2 vGt (xf bLen [xl 1]) (xi 0)) (ta (t2 vIn (x2 vItem (xl 1) (xi 0)) (xD (.tup [.str (tx "linear_le"),.str (tx "linear_eq"),.str (tx "linear_ne")]))) (t2 vEq (xc 188 [xl 1,xl 2]) (xD (.str [])))))))]
noncomputable def Up:MF:=⟨3,3,X178.m⟩
noncomputable def K183:=bE (xR bTrue) (xe (t2 vEq (xf bLen [xl 0]) (xl 1)))
noncomputable def K183a:=bN (iE (xl 0)) (uv 1) (bE (xR bTrue) (xe (T_ vLe vLe (xi 0) (xl 1) (xl 2))))
noncomputable def K183b:=bE (xR bTrue) (xe (T_ vLe vLe (xi 1) (xl 0) (xl 1)))
noncomputable def X183:=zz [za (xu (xl 0) (xi 2) xn) (up [uv 1,uv 2,uv 3,uv 4,uv 5]),zi (to (t2 vNe (xf bLen [xl 3]) (xl 1)) (to (tn (t1 vTrue (xf bAll [xk (iE (xl 3)) (uv 0) K183 [none,some 2]]))) (tq false))) [zr (xt "regular: there is one row for each state, with a place for each letter")] [],zi (tn (t1 vTrue (xf bAll [xk (iE (xl 3)) (uv 0) K183a [none,none,some 1]]))) [zr (xt "regular: a row leads to no state")] [],zi (tn (t1 vTrue (xf bAll [xk (iE (x2 vAdd (xp [xl 4]) (xl 5))) (uv 0) K183b [none,some 1]]))) [zr (xt "regular: a machine begins and ends in states")] [],zr (xD (.str []))]
noncomputable def Uq:MF:=⟨1,6,X183.m⟩
noncomputable def L188:=zz [zi (tn (t1 vTrue (xc 178 [xl 5,x2 vItem (xl 0) (x2 vAdd (xl 4) (xi 1)),xl 1]))) [zr (xj [xF (xl 2),xt ": argument ",xF (x2 vAdd (xl 4) (xi 1)),xt " is of another kind"])] []]
noncomputable def L188a:=zz [zi (t2 vNe (xf bLen [x2 vItem (xl 0) (xl 6)]) (xf bLen [x2 vItem (xl 0) (xl 7)])) [zr (xj [xF (xl 2),xt ": arguments ",xF (xl 6),xt " and ",xF (xl 7),xt " are of unlike lengths"])] []]
noncomputable def K188:=bE (xR bTrue) (xe (t2 vEq (xf bLen [xl 0]) (xf bLen [x2 vItem (xl 1) (xi 1)])))
noncomputable def Ur:List XS:=[zi (to (tn (t1 vTrue (xe (ti 2 (xl 0))))) (to (t2 vEq (xf bLen [xl 0]) (xi 0)) (to (tn (t1 vTrue (xe (ti 3 (x2 vItem (xl 0) (xi 0)))))) (to (t2 vNotIn (x2 vItem (xl 0) (xi 0)) (xw (V.dict jc))) (tq false))))) [zr (xt "no constraint is told so")] [],za (xp [x2 vItem (xl 0) (xi 0),x2 vItem (xw (V.dict jc)) (x2 vItem (xl 0) (xi 0))]) (u2 2 3),zi (t2 vNe (xf bLen [xl 0]) (x2 vAdd (xf bLen [xl 3]) (xi 1))) [zr (xj [xF (xl 2),xt " has ",xF (xf bLen [xl 3]),xt " arguments, not ",xF (x2 vSub (xf bLen [xl 0]) (xi 1))])] [],zf (iN [xl 3]) (up [uv 4,uv 5]) L188,zf (iE (xM 2 mGet (xw (V.dict v9)) [xl 2,xp []])) (up [uv 6,uv 7]) L188a]
noncomputable def Qw:List XS:=[zi (to (ta (t2 vEq (xl 2) (xt "cumulative")) (ta (t2 vLt (xf bMin [x2 vAdd (x2 vAdd (x2 vItem (xl 0) (xi 2)) (x2 vItem (xl 0) (xi 3))) (xp [xi 0])]) (xi 0)) (tq true))) (to (ta (t2 vEq (xl 2) (xt "disjunctive")) (ta (t2 vLt (xf bMin [x2 vAdd (x2 vItem (xl 0) (xi 2)) (xp [xi 0])]) (xi 0)) (tq true))) (tq false))) [zr (xj [xF (xl 2),xt ": no task lasts, or needs, less than 0"])] [],zi (ta (t2 vIn (xl 2) (xp [xt "max",xt "min"])) (ta (t2 vEq (xf bLen [x2 vItem (xl 0) (xi 1)]) (xi 0)) (tq true))) [zr (xj [xF (xl 2),xt ": there is one variable at least"])] [],zi (ta (t2 vEq (xl 2) (xt "table")) (ta (tn (t1 vTrue (xf bAll [xk (iE (x2 vItem (xl 0) (xi 2))) (uv 0) K188 [none,some 0]]))) (tq true))) [zr (xt "table: a row has a number for each variable")] [],zr (pU (t2 vEq (xl 2) (xt "regular")) (xc 183 [xl 0]) (xD (.str [])))]
noncomputable def X188:=zz (Ur++Qw)
noncomputable def Us:MF:=⟨2,8,X188.m⟩
noncomputable def X195:=zz [za (x2 vItem (xl 0) (xi 0)) (uv 1),zi (t2 vEq (xl 1) (xt "clause")) [zr (x2 vAdd (x2 vItem (xl 0) (xi 1)) (x2 vItem (xl 0) (xi 2)))] [],zi (t2 vIn (xl 1) (xp [xt "and",xt "or"])) [zr (x2 vAdd (x2 vItem (xl 0) (xi 1)) (xp [x2 vItem (xl 0) (xi 2)]))] [],zi (t2 vEq (xl 1) (xt "xor")) [zr (xu (xl 0) (xi 1) xn)] [],zr (pU (t2 vIn (xl 1) (xp [xt "reif",xt "imp"])) (xp [x2 vItem (xl 0) (xi 1)]) (xp []))]
noncomputable def Ut:MF:=⟨1,2,X195.m⟩
noncomputable def K200:=bE (xR bTrue) (xe (ta (t2 vGe (xl 0) (xi 0)) (t2 vLe (xl 1) (xi 1))))
noncomputable def X200:=zz [zr (xf bAll [xk (iE (xl 0)) (up [uv 0,uv 1]) K200 [none,none]])]
noncomputable def Uu:MF:=⟨1,1,X200.m⟩
noncomputable def X207:=zz [zi (to (tn (t1 vTrue (xe (ti 2 (xl 0))))) (to (t2 vLt (xf bLen [xl 0]) (xi 2)) (tq false))) [zr (xt "a piece has a kind and what is shown")] [],zi (ta (t2 vEq (x2 vItem (xl 0) (xi 0)) (xt "text")) (ta (t2 vEq (xf bLen [xl 0]) (xi 2)) (ta (t1 vTrue (xe (ti 3 (x2 vItem (xl 0) (xi 1))))) (tq true)))) [zr (xD (.str []))] [],zi (ta (t2 vIn (x2 vItem (xl 0) (xi 0)) (xp [xt "int",xt "bool"])) (ta (t2 vEq (xf bLen [xl 0]) (xi 2)) (ta (t1 vTrue (xc 173 [x2 vItem (xl 0) (xi 1),xl 1])) (tq true)))) [zr (xD (.str []))] [],zi (ta (t2 vEq (x2 vItem (xl 0) (xi 0)) (xt "list")) (ta (t2 vEq (xf bLen [xl 0]) (xi 2)) (tq true))) [ze (xM 1 mAppend (xl 2) [x2 vItem (xl 0) (xi 1)]),zr (xD (.str []))] [],zi (ta (t2 vEq (x2 vItem (xl 0) (xi 0)) (xt "if")) (ta (t2 vEq (xf bLen [xl 0]) (xi 4)) (ta (t1 vTrue (xc 173 [x2 vItem (xl 0) (xi 1),xl 1])) (tq true)))) [ze (xM 1 mExtend (xl 2) [xu (xl 0) (xi 2) xn]),zr (xD (.str []))] [],zr (xt "no piece is told so")]
noncomputable def Uv:MF:=⟨3,3,X207.m⟩
noncomputable def L214:=zz [za (xc 207 [xl 4,xl 1,xl 2]) (uv 5),zi (t2 vNe (xl 5) (xD (.str []))) [zr (xl 5)] []]
noncomputable def T214:=t2 vGt (xf bLen [xl 2]) (xi 0)
noncomputable def L214a:=zz [za (xM 1 mPop (xl 2) []) (uv 3),zi (tn (t1 vTrue (xe (ti 2 (xl 3))))) [zr (xt "pieces stand in a list")] [],zf (iE (xl 3)) (uv 4) L214]
noncomputable def X214:=zz [za (xN [xl 0]) (uv 2),zw T214 L214a,zr (xD (.str []))]
noncomputable def Uw:MF:=⟨2,6,X214.m⟩
noncomputable def K219:=bE (xR bTrue) (xe (to (t2 vIn (xl 0) (xt "abcdefghijklmnopqrstuvwxyzABCDEFGHIJKLMNOPQRSTUVWXYZ_")) (t2 vIn (xl 0) (xt "0123456789"))))
noncomputable def X219:=zz [zr (xe (ta (t2 vNe (xl 0) (xD (.str []))) (ta (t2 vIn (x2 vItem (xl 0) (xi 0)) (xt "abcdefghijklmnopqrstuvwxyzABCDEFGHIJKLMNOPQRSTUVWXYZ_")) (t1 vTrue (xf bAll [xk (iS (xl 0)) (uv 0) K219 [none]])))))]
noncomputable def Ux:MF:=⟨1,1,X219.m⟩
noncomputable def X226:=zz [zr (x2 vAdd (x2 vAdd (xt "\"") (xr 10 (tx "\\n") (xr 34 (tx "\\\"") (xr 92 (tx "\\\\") (xl 0))))) (xt "\""))]
noncomputable def Uy:MF:=⟨1,1,X226.m⟩
noncomputable def X233:=zz [zi (t2 vIsNone (xl 0) xn) [zr (xt "none")] [],zi (t1 vTrue (xe (ti 1 (xl 0)))) [zr (pU (t1 vTrue (xl 0)) (xt "true") (xt "false"))] [],zi (t1 vTrue (xe (ti 0 (xl 0)))) [zr (xf bStr [xl 0])] [],zi (t1 vTrue (xe (ti 3 (xl 0)))) [zr (xc 226 [xl 0])] [],zR sStuck]
noncomputable def Uz:MF:=⟨1,1,X233.m⟩
noncomputable def L240:=zz [ze (xM 1 mAppend (xl 1) [xp [xD (.bool false),x2 vItem (xl 3) (xl 4)]]),zi (t2 vGt (xl 4) (xi 0)) [ze (xM 1 mAppend (xl 1) [xp [xD (.bool true),xt ", "]])] []]
noncomputable def X240:=zz [za (xe (ta (t2 vGt (xf bLen [xl 0]) (xi 0)) (ta (ti 3 (x2 vItem (xl 0) (xi 0))) (t1 vTrue (xc 219 [x2 vItem (xl 0) (xi 0)]))))) (uv 2),za (pU (t1 vTrue (xl 2)) (xu (xl 0) (xi 1) xn) (xl 0)) (uv 3),ze (xM 1 mAppend (xl 1) [xp [xD (.bool true),pU (t1 vTrue (xl 2)) (xt ")") (xt "]")]]),zy (zf (iR [x2 vSub (xf bLen [xl 3]) (xi 1),x1 vNeg (xi 1),x1 vNeg (xi 1)]) (uv 4) L240),ze (xM 1 mAppend (xl 1) [xp [xD (.bool true),pU (t1 vTrue (xl 2)) (x2 vAdd (x2 vItem (xl 0) (xi 0)) (xt "(")) (xt "[")]])]
noncomputable def UA:MF:=⟨2,5,X240.m⟩
noncomputable def T247:=t2 vGt (xf bLen [xl 2]) (xi 0)
noncomputable def L247:=zz [za (xM 1 mPop (xl 2) []) (up [uv 3,uv 4]),zi (t1 vTrue (xl 3)) [ze (xM 1 mAppend (xl 1) [xl 4])] [zi (t1 vTrue (xe (ti 2 (xl 4)))) [ze (xc 240 [xl 4,xl 2])] [ze (xM 1 mAppend (xl 1) [xc 233 [xl 4]])]]]
noncomputable def X247:=zz [za (xp [xN [],xN [xp [xD (.bool false),xl 0]]]) (u2 1 2),zw T247 L247,zr (xM 0 mJoin (xD (.str [])) [xl 1])]
noncomputable def UB:MF:=⟨1,5,X247.m⟩
noncomputable def K252:=bE (xR bTrue) (xj [xF (xl 0),xt "..",xF (xl 1)])
noncomputable def X252:=zz [za (xk (iE (xl 0)) (up [uv 0,uv 1]) K252 [none,none]) (uv 1),zr (pU (t2 vEq (xf bLen [xl 1]) (xi 1)) (x2 vItem (xl 1) (xi 0)) (x2 vAdd (x2 vAdd (xt "{") (xM 0 mJoin (xt ", ") [xl 1])) (xt "}")))]
noncomputable def UC:MF:=⟨1,2,X252.m⟩
noncomputable def L259:=zz [ze (xM 1 mAppend (xl 1) [xj [xt "var ",xF (xc 252 [xl 3]),xt ": ",xF (pU (t1 vTrue (xc 219 [xl 2])) (xl 2) (xc 226 [xl 2])),xt ";"]])]
noncomputable def L259a:=zz [ze (xM 1 mAppend (xl 1) [xj [xt "constraint ",xF (xc 247 [xl 4]),xt ";"]])]
noncomputable def UD:List XS:=[za (xN []) (uv 1),zf (iE (RX 0 (xl 0))) (up [uv 2,uv 3]) L259,zf (iE (RX 1 (xl 0))) (uv 4) L259a,za (xa 2 (xl 0)) (up [uv 5,uv 6]),ze (xM 1 mAppend (xl 1) [pU (t2 vIsNone (xl 6) xn) (xj [xt "solve ",xF (xl 5),xt ";"]) (xj [xt "solve ",xF (xl 5),xt " ",xF (xl 6),xt ";"])]),ze (xM 1 mAppend (xl 1) [xj [xt "output ",xF (xc 247 [xa 3 (xl 0)]),xt ";"]]),zr (x2 vAdd (xM 0 mJoin (xt "\n") [xl 1]) (xt "\n"))]
noncomputable def X259:=zz UD
noncomputable def UE:MF:=⟨1,7,X259.m⟩
noncomputable def X273:=zz [za (xl 1) (ua 4 (xl 0)),za (xi 0) (ua 5 (xl 0))]
noncomputable def UG:MF:=⟨2,2,X273.m⟩
noncomputable def X280:=zz [zr (xu (xa 4 (xl 0)) (xa 5 (xl 0)) (x2 vAdd (xa 5 (xl 0)) (xi 1)))]
noncomputable def UH:MF:=⟨1,1,X280.m⟩
noncomputable def T287:=t2 vEq (xm 1 280 (xl 0) []) (xt "%")
noncomputable def L287:=zz [za (xM 0 mFind (xa 4 (xl 0)) [xt "\n",xa 5 (xl 0)]) (uv 1),za (pU (t2 vGe (xl 1) (xi 0)) (xl 1) (xf bLen [xa 4 (xl 0)])) (ua 5 (xl 0)),ze (xm 1 294 (xl 0) [xt " \t\r\n"])]
noncomputable def X287:=zz [ze (xm 1 294 (xl 0) [xt " \t\r\n"]),zw T287 L287]
noncomputable def UI:MF:=⟨1,2,X287.m⟩
noncomputable def T294:=ta (t2 vLt (xl 3) (xf bLen [xa 4 (xl 0)])) (ta (t2 vIn (x2 vItem (xa 4 (xl 0)) (xl 3)) (xl 1)) (tq true))
noncomputable def L294:=zz [za (x2 vAdd (xl 3) (xi 1)) (uv 3)]
noncomputable def X294:=zz [za (xp [xa 5 (xl 0),xa 5 (xl 0)]) (u2 2 3),zw T294 L294,za (xl 3) (ua 5 (xl 0)),zr (xu (xa 4 (xl 0)) (xl 2) (xl 3))]
noncomputable def UJ:MF:=⟨2,4,X294.m⟩
noncomputable def T301:=t2 vNotIn (xm 1 280 (xl 0) []) (xp [xD (.str []),xt "\n",xt "\""])
noncomputable def L301:=zz [za (xm 1 280 (xl 0) []) (uv 3),zi (t2 vEq (xl 3) (xt "\\")) [za (x2 vAdd (xa 5 (xl 0)) (xi 1)) (ua 5 (xl 0)),zi (t2 vNotIn (xm 1 280 (xl 0) []) (xp [xt "n",xt "\"",xt "\\"])) [zx [xt "a backslash stands ahead of n, a quote or a backslash",x2 vSub (xa 5 (xl 0)) (xi 1)]] [],za (pU (t2 vEq (xm 1 280 (xl 0) []) (xt "n")) (xt "\n") (xm 1 280 (xl 0) [])) (uv 3)] [],ze (xM 1 mAppend (xl 2) [xl 3]),za (x2 vAdd (xa 5 (xl 0)) (xi 1)) (ua 5 (xl 0))]
noncomputable def X301:=zz [za (xp [xa 5 (xl 0),xN []]) (u2 1 2),za (x2 vAdd (xa 5 (xl 0)) (xi 1)) (ua 5 (xl 0)),zw T301 L301,zi (t2 vNe (xm 1 280 (xl 0) []) (xt "\"")) [zx [xt "a text is not closed",xl 1]] [],za (x2 vAdd (xa 5 (xl 0)) (xi 1)) (ua 5 (xl 0)),zr (xM 0 mJoin (xD (.str [])) [xl 2])]
noncomputable def UK:MF:=⟨1,4,X301.m⟩
noncomputable def X308:=zz [za (xp [xa 5 (xl 0),xe (t2 vEq (xm 1 280 (xl 0) []) (xt "-"))]) (u2 1 2),zi (t1 vTrue (xl 2)) [za (x2 vAdd (xa 5 (xl 0)) (xi 1)) (ua 5 (xl 0))] [],za (xm 1 294 (xl 0) [xt "0123456789"]) (uv 3),zi (to (t2 vEq (xl 3) (xD (.str []))) (to (t2 vGt (xf bLen [xl 3]) (xi 1000)) (tq false))) [zx [xj [xt "a number has from one to ",xF (xi 1000),xt " digits"],xl 1]] [],zr (pU (t1 vTrue (xl 2)) (x1 vNeg (xf bInt [xl 3])) (xf bInt [xl 3]))]
noncomputable def UL:MF:=⟨1,4,X308.m⟩
noncomputable def X315:=zz [ze (xm 1 287 (xl 0) []),za (xp [xa 5 (xl 0),xm 1 280 (xl 0) []]) (u2 1 2),zi (t2 vEq (xl 2) (xD (.str []))) [zr (xp [xt "end",xD (.str []),xl 1])] [],zi (t2 vEq (xl 2) (xt "\"")) [zr (xp [xt "text",xm 1 301 (xl 0) [],xl 1])] [],zi (to (t2 vEq (xl 2) (xt "-")) (to (t2 vIn (xl 2) (xt "0123456789")) (tq false))) [zr (xp [xt "number",xm 1 308 (xl 0) [],xl 1])] [],zi (t2 vIn (xl 2) (xt "abcdefghijklmnopqrstuvwxyzABCDEFGHIJKLMNOPQRSTUVWXYZ_")) [zr (xp [xt "word",xm 1 294 (xl 0) [x2 vAdd (xt "abcdefghijklmnopqrstuvwxyzABCDEFGHIJKLMNOPQRSTUVWXYZ_") (xt "0123456789")],xl 1])] [],zi (t2 vEq (xu (xa 4 (xl 0)) (xl 1) (x2 vAdd (xl 1) (xi 2))) (xt "..")) [za (x2 vAdd (xl 1) (xi 2)) (ua 5 (xl 0)),zr (xp [xt "sign",xt "..",xl 1])] [],zi (t2 vNotIn (xl 2) (xt "()[]{},;:")) [zx [xj [xt "a sign stands for nothing: ",xF (xl 2)],xl 1]] [],za (x2 vAdd (xl 1) (xi 1)) (ua 5 (xl 0)),zr (xp [xt "sign",xl 2,xl 1])]
noncomputable def UM:MF:=⟨1,3,X315.m⟩
noncomputable def X336:=zz [za (xc 318 [xl 1]) (ua 6 (xl 0)),za (xm 1 315 (xa 6 (xl 0)) []) (ua 7 (xl 0))]
noncomputable def UN:MF:=⟨2,2,X336.m⟩
noncomputable def X343:=zz [za (xa 7 (xl 0)) (uv 1),za (xm 1 315 (xa 6 (xl 0)) []) (ua 7 (xl 0)),zr (xl 1)]
noncomputable def UO:MF:=⟨1,2,X343.m⟩
noncomputable def X350:=zz [zr (xe (t2 vEq (xu (xa 7 (xl 0)) xn (xi 2)) (xp [xt "sign",xl 1])))]
noncomputable def UP:MF:=⟨2,2,X350.m⟩
noncomputable def X357:=zz [zi (tn (t1 vTrue (xm 2 350 (xl 0) [xl 1]))) [zx [xj [xF (xl 1),xt " is wanted"],x2 vItem (xa 7 (xl 0)) (xi 2)]] [],ze (xm 2 343 (xl 0) [])]
noncomputable def UQ:MF:=⟨2,2,X357.m⟩
noncomputable def X364:=zz [zi (t2 vNe (x2 vItem (xa 7 (xl 0)) (xi 0)) (xt "number")) [zx [xt "a whole number is wanted",x2 vItem (xa 7 (xl 0)) (xi 2)]] [],zr (x2 vItem (xm 2 343 (xl 0) []) (xi 1))]
noncomputable def UR:MF:=⟨1,1,X364.m⟩
noncomputable def X371:=zz [zi (to (t2 vEq (x2 vItem (xl 1) (xi 0)) (xt "number")) (to (t2 vEq (x2 vItem (xl 1) (xi 0)) (xt "text")) (tq false))) [zr (x2 vItem (xl 1) (xi 1))] [],zi (ta (t2 vEq (x2 vItem (xl 1) (xi 0)) (xt "word")) (ta (t2 vIn (x2 vItem (xl 1) (xi 1)) (xp [xt "none",xt "true",xt "false"])) (tq true))) [zr (pU (t2 vEq (x2 vItem (xl 1) (xi 1)) (xt "none")) xn (xe (t2 vEq (x2 vItem (xl 1) (xi 1)) (xt "true"))))] [],zx [xt "a number, a text, a list or a call is wanted",x2 vItem (xl 1) (xi 2)]]
noncomputable def US:MF:=⟨2,2,X371.m⟩
noncomputable def UT:List XS:=[za (xm 2 343 (xl 0) []) (uv 2),zi (ta (t2 vEq (x2 vItem (xl 2) (xi 0)) (xt "word")) (ta (t1 vTrue (xm 2 350 (xl 0) [xt "("])) (tq true))) [ze (xm 2 343 (xl 0) []),ze (xM 1 mAppend (xl 1) [xp [xN [x2 vItem (xl 2) (xi 1)],xt ")"]])] [zi (t2 vEq (xu (xl 2) xn (xi 2)) (xp [xt "sign",xt "["])) [ze (xM 1 mAppend (xl 1) [xp [xN [],xt "]"]])] [zr (xp [xD (.bool true),xm 2 371 (xl 0) [xl 2]])]]]
noncomputable def Qx:List XS:=[zi (t1 vTrue (xm 2 350 (xl 0) [x2 vItem (x2 vItem (xl 1) (x1 vNeg (xi 1))) (xi 1)])) [zr (xm 2 385 (xl 0) [xl 1])] [],zr (xp [xD (.bool false),xn])]
noncomputable def X378:=zz (UT++Qx)
noncomputable def UU:MF:=⟨2,3,X378.m⟩
noncomputable def X385:=zz [zi (t1 vTrue (xm 2 350 (xl 0) [xt ","])) [ze (xm 2 343 (xl 0) []),zr (xp [xD (.bool false),xn])] [],za (x2 vItem (xl 1) (x1 vNeg (xi 1))) (up [uv 2,uv 3]),ze (xm 2 357 (xl 0) [xl 3]),ze (xM 1 mPop (xl 1) []),zr (xp [xD (.bool true),xf bTuple [xl 2]])]
noncomputable def UW:MF:=⟨2,4,X385.m⟩
noncomputable def T392:=t1 vTrue (xl 2)
noncomputable def L392:=zz [zi (t2 vEq (xf bLen [xl 1]) (xi 0)) [zr (xl 3)] [],ze (xM 1 mAppend (x2 vItem (x2 vItem (xl 1) (x1 vNeg (xi 1))) (xi 0)) [xl 3]),za (xm 2 385 (xl 0) [xl 1]) (up [uv 2,uv 3])]
noncomputable def T392a:=t1 vTrue (xD (.bool true))
noncomputable def L392a:=zz [za (xm 2 378 (xl 0) [xl 1]) (up [uv 2,uv 3]),zw T392 L392]
noncomputable def X392:=zz [za (xN []) (uv 1),zw T392a L392a]
noncomputable def UX:MF:=⟨1,4,X392.m⟩
noncomputable def X422:=zz [za (xp [x2 vItem (xa 7 (xl 0)) (xi 2),xm 2 364 (xl 0) []]) (u2 2 3),ze (xm 2 357 (xl 0) [xt ".."]),za (xm 2 364 (xl 0) []) (uv 4),zi (to (t2 vGt (xl 3) (xl 4)) (to (ta (t2 vIsNotNone (xl 1) xn) (ta (t2 vLe (xl 3) (x2 vAdd (xl 1) (xi 1))) (tq true))) (tq false))) [zx [xt "ranges ascend, and do not touch",xl 2]] [],zr (xp [xl 3,xl 4])]
noncomputable def UY:MF:=⟨2,5,X422.m⟩
noncomputable def T429:=tn (t1 vTrue (xm 2 350 (xl 0) [xt "}"]))
noncomputable def L429:=zz [zi (t2 vGt (xf bLen [xl 1]) (xi 0)) [ze (xm 2 357 (xl 0) [xt ","])] [],ze (xM 1 mAppend (xl 1) [xm 2 422 (xl 0) [pU (t2 vGt (xf bLen [xl 1]) (xi 0)) (x2 vItem (x2 vItem (xl 1) (x1 vNeg (xi 1))) (xi 1)) xn]])]
noncomputable def X429:=zz [zi (tn (t1 vTrue (xm 2 350 (xl 0) [xt "{"]))) [zr (xp [xm 2 422 (xl 0) [xn]])] [],ze (xm 2 343 (xl 0) []),za (xN []) (uv 1),zw T429 L429,ze (xm 2 343 (xl 0) []),zr (xf bTuple [xl 1])]
noncomputable def UZ:MF:=⟨1,2,X429.m⟩
noncomputable def X436:=zz [za (xm 2 429 (xl 0) []) (uv 1),ze (xm 2 357 (xl 0) [xt ":"]),zi (t2 vNotIn (x2 vItem (xa 7 (xl 0)) (xi 0)) (xp [xt "word",xt "text"])) [zx [xt "a name is wanted",x2 vItem (xa 7 (xl 0)) (xi 2)]] [],ze (xm 0 126 (xa 8 (xl 0)) [x2 vItem (xm 2 343 (xl 0) []) (xi 1),xl 1])]
noncomputable def U0:MF:=⟨1,2,X436.m⟩
noncomputable def X443:=zz [ze (xM 1 mAppend (xa 9 (xl 0)) [x2 vItem (xa 7 (xl 0)) (xi 2)]),ze (xm 0 133 (xa 8 (xl 0)) [xm 2 392 (xl 0) []])]
noncomputable def U1:MF:=⟨1,1,X443.m⟩
noncomputable def X450:=zz [zi (t2 vGe (xa 10 (xl 0)) (xi 0)) [zx [xt "a model has one goal",xl 1]] [],za (x2 vItem (xa 7 (xl 0)) (xi 2)) (ua 10 (xl 0)),za (xm 2 343 (xl 0) []) (uv 2),zi (to (t2 vNe (x2 vItem (xl 2) (xi 0)) (xt "word")) (to (t2 vNotIn (x2 vItem (xl 2) (xi 1)) (xD (.tup [.str (tx "satisfy"),.str (tx "minimize"),.str (tx "maximize")]))) (tq false))) [zx [xt "satisfy, minimize or maximize is wanted",x2 vItem (xl 2) (xi 2)]] [],za (xp [x2 vItem (xl 2) (xi 1),pU (t2 vEq (x2 vItem (xl 2) (xi 1)) (xt "satisfy")) xn (xm 2 364 (xl 0) [])]) (ua 2 (xa 8 (xl 0)))]
noncomputable def U2:MF:=⟨2,3,X450.m⟩
noncomputable def X457:=zz [zi (t2 vGe (xa 11 (xl 0)) (xi 0)) [zx [xt "a model is shown in one way",xl 1]] [],za (x2 vItem (xa 7 (xl 0)) (xi 2)) (ua 11 (xl 0)),za (xm 2 392 (xl 0) []) (ua 3 (xa 8 (xl 0)))]
noncomputable def U3:MF:=⟨2,2,X457.m⟩
noncomputable def LR:XS:=zi (t2 vEq (xu (xl 1) xn (xi 2)) (xp [xt "word",xt "var"])) [ze (xm 2 436 (xl 0) [])] [zi (t2 vEq (xu (xl 1) xn (xi 2)) (xp [xt "word",xt "constraint"])) [ze (xm 2 443 (xl 0) [])] [zi (t2 vEq (xu (xl 1) xn (xi 2)) (xp [xt "word",xt "solve"])) [ze (xm 2 450 (xl 0) [x2 vItem (xl 1) (xi 2)])] [zi (t2 vEq (xu (xl 1) xn (xi 2)) (xp [xt "word",xt "output"])) [ze (xm 2 457 (xl 0) [x2 vItem (xl 1) (xi 2)])] [zx [xt "var, constraint, solve or output is wanted",x2 vItem (xl 1) (xi 2)]]]]]
noncomputable def U4:List XS:=[za (xm 2 343 (xl 0) []) (uv 1)]
noncomputable def I7:List XS:=[LR,ze (xm 2 357 (xl 0) [xt ";"])]
noncomputable def X464:=zz (U4++I7)
noncomputable def U5:MF:=⟨1,2,X464.m⟩
noncomputable def X471:=zz [zi (t2 vNe (xl 1) (xD (.str []))) [zx [xl 1,xl 2]] []]
noncomputable def U6:MF:=⟨3,3,X471.m⟩
noncomputable def T476:=t2 vNe (x2 vItem (xa 7 (xl 0)) (xi 0)) (xt "end")
noncomputable def L476:=zz [ze (xm 2 464 (xl 0) [])]
noncomputable def K476:=bE (xR bTrue) (xc 200 [xm 0 147 (xa 8 (xl 1)) [xl 0]])
noncomputable def L476a:=zz [ze (xm 2 471 (xl 0) [xc 188 [xl 2,xl 1],xl 3]),zi (tn (t1 vTrue (xf bAll [xk (iE (xc 195 [xl 2])) (uv 0) K476 [none,some 0]]))) [zx [xj [xF (x2 vItem (xl 2) (xi 0)),xt ": a truth has the values 0 and 1 alone"],xl 3]] []]
noncomputable def X476:=zz [zw T476 L476,za (xm 0 140 (xa 8 (xl 0)) []) (uv 1),zf (iZ [RX 1 (xa 8 (xl 0)),RX 9 (xl 0)]) (up [uv 2,uv 3]) L476a,za (x2 vItem (xa 2 (xa 8 (xl 0))) (xi 1)) (uv 4),ze (xm 2 471 (xl 0) [pU (to (t2 vIsNone (xl 4) xn) (to (t1 vTrue (xc 173 [xl 4,xl 1])) (tq false))) (xD (.str [])) (xt "the goal is no variable"),xa 10 (xl 0)]),ze (xm 2 471 (xl 0) [xc 214 [xa 3 (xa 8 (xl 0)),xl 1],xa 11 (xl 0)]),zr (xa 8 (xl 0))]
noncomputable def U7:MF:=⟨1,5,X476.m⟩
noncomputable def X488:=zz [zr (xm 2 476 (xc 479 [xl 0]) [])]
noncomputable def U8:MF:=⟨1,1,X488.m⟩
noncomputable def X495:=zz [zr (xL [xt "x",xt "x[1]",xD (.str []),xt "a\"b",xt "p\\q",xt "n\nl",xt "var"])]
noncomputable def U9:MF:=⟨0,0,X495.m⟩
noncomputable def X502:=zz [zr (xL [xp [xp [xi 1,xi 3]],xp [],xp [xp [xi 0,xi 0],xp [xi 2,xi 5]],xp [xp [x1 vNeg (xi 7),x1 vNeg (xi 2)]],xp [xp [xi 4,xi 4]],xp [xp [x1 vNeg (xi 3),x1 vNeg (xi 3)],xp [xi 0,xi 1]]])]
noncomputable def U':MF:=⟨0,0,X502.m⟩
noncomputable def X509:=zz [zr (xL [xp [xt "linear_le",xt "NXn"],xp [xt "linear_eq",xt "NXn"],xp [xt "linear_ne",xt "NXn"],xp [xt "times",xt "xxx"],xp [xt "div",xt "xxx"],xp [xt "mod",xt "xxx"],xp [xt "abs",xt "xx"],xp [xt "max",xt "Xx"],xp [xt "min",xt "Xx"],xp [xt "element",xt "xXx"],xp [xt "element_of",xt "xNx"],xp [xt "table",xt "XR"],xp [xt "all_different",xt "Xs"],xp [xt "count",xt "Xnx"],xp [xt "nvalue",xt "Xx"],xp [xt "cardinality",xt "XNNN"],xp [xt "cumulative",xt "XPPn"],xp [xt "disjunctive",xt "XP"],xp [xt "circuit",xt "X"],xp [xt "inverse",xt "XX"],xp [xt "regular",xt "Xm"],xp [xt "lex_le",xt "XX"],xp [xt "lex_lt",xt "XX"],xp [xt "increasing",xt "X"],xp [xt "precede",xt "nnX"],xp [xt "clause",xt "BB"],xp [xt "and",xt "Bb"],xp [xt "or",xt "Bb"],xp [xt "xor",xt "bbb"],xp [xt "reif",xt "bt"],xp [xt "imp",xt "bt"]])]
noncomputable def U_:MF:=⟨0,0,X509.m⟩
noncomputable def X516:=zz [za (xp [x2 vItem (xl 0) (xt "at"),x2 vItem (xl 0) (xt "cells")]) (u2 2 3),zK (x2 vAdd (xl 2) (xi 1)) (xl 0) (xt "at"),zr (x2 vMod (x2 vAdd (x2 vItem (xl 3) (x2 vMod (xl 2) (xf bLen [xl 3]))) (x2 vMul (xi 13) (x2 vDiv (xl 2) (xf bLen [xl 3])))) (xl 1))]
noncomputable def Va:MF:=⟨2,4,X516.m⟩
noncomputable def K521:=bE (xR bTrue) (x2 vAdd (xl 2) (xc 516 [xl 1,xl 3]))
noncomputable def X521:=zz [zr (xf bTuple [xk (iR [xl 1]) (uv 0) K521 [none,some 0,some 2,some 3]])]
noncomputable def Vb:MF:=⟨4,4,X521.m⟩
noncomputable def K526:=bE (xR bTrue) (xc 521 [xl 1,xl 2,x1 vNeg (xi 4),xi 9])
noncomputable def X526:=zz [zi (to (t2 vEq (xl 1) (xt "x")) (to (t2 vEq (xl 1) (xt "b")) (tq false))) [zr (xp [xc 516 [xl 0,pU (t2 vEq (xl 1) (xt "x")) (xl 2) (xi 2)]])] [],zi (t2 vEq (xl 1) (xt "X")) [zr (xp [xc 521 [xl 0,xl 3,xi 0,xl 2]])] [],zi (t2 vEq (xl 1) (xt "B")) [zr (xp [xc 521 [xl 0,xc 516 [xl 0,xi 3],xi 0,xi 2]])] [],zi (t2 vEq (xl 1) (xt "n")) [zr (xp [x2 vSub (xc 516 [xl 0,xi 9]) (xi 4)])] [],zi (to (t2 vEq (xl 1) (xt "N")) (to (t2 vEq (xl 1) (xt "P")) (tq false))) [zr (xp [xc 521 [xl 0,xl 3,pU (t2 vEq (xl 1) (xt "N")) (x1 vNeg (xi 4)) (xi 0),xi 9]])] [],zi (t2 vEq (xl 1) (xt "R")) [zr (xp [xf bTuple [xk (iR [xc 516 [xl 0,xi 3]]) (uv 0) K526 [none,some 0,some 3]]])] [],zi (t2 vEq (xl 1) (xt "s")) [zr (xp [x2 vItem (xL [xt "bounds",xt "values"]) (xc 516 [xl 0,xi 2])])] [],zi (t2 vEq (xl 1) (xt "m")) [za (xp [xc 521 [xl 0,xi 2,xi 0,xi 3],xc 521 [xl 0,xi 2,xi 0,xi 3]]) (uv 4),zr (xp [xi 2,xi 2,xl 4,x2 vAdd (xi 1) (xc 516 [xl 0,xi 2]),xc 521 [xl 0,xc 516 [xl 0,xi 2],xi 1,xi 2]])] [],za (x2 vItem (xL [xt "linear_le",xt "linear_eq",xt "linear_ne"]) (xc 516 [xl 0,xi 3])) (uv 5),zr (xp [xp [xl 5,xc 521 [xl 0,xl 3,x1 vNeg (xi 4),xi 9],xc 521 [xl 0,xl 3,xi 0,xl 2],x2 vSub (xc 516 [xl 0,xi 9]) (xi 4)]])]
noncomputable def Vc:MF:=⟨4,6,X526.m⟩
noncomputable def L533:=zz [za (x2 vAdd (xl 5) (xc 526 [xl 0,xl 6,xl 1,xl 4])) (uv 5)]
noncomputable def ZJ:List XS:=[za (x2 vItem (xc 509 []) (xc 516 [xl 0,xf bLen [xc 509 []]])) (up [uv 2,uv 3]),za (xp [x2 vAdd (xi 1) (xc 516 [xl 0,xi 2]),xp [xl 2]]) (u2 4 5),zf (iS (xl 3)) (uv 6) L533,zr (xl 5)]
noncomputable def X533:=zz ZJ
noncomputable def Vd:MF:=⟨2,7,X533.m⟩
noncomputable def ZK:List XS:=[za (xp [xc 516 [xl 0,xi 5],xc 516 [xl 0,xl 1]]) (u2 2 3),zi (t2 vEq (xl 2) (xi 0)) [zr (xp [xt "text",x2 vItem (xc 495 []) (xc 516 [xl 0,xi 7])])] [],zi (t2 vEq (xl 2) (xi 1)) [zr (xp [xt "int",xl 3])] [],zi (t2 vEq (xl 2) (xi 2)) [zr (xp [xt "bool",xl 3])] [],zi (t2 vEq (xl 2) (xi 3)) [zr (xp [xt "list",xu (xp [xp [xt "int",xl 3],xp [xt "text",xt "a"]]) xn (xc 516 [xl 0,xi 3])])] [],zr (xp [xt "if",xl 3,xp [xp [xt "text",xt "y"],xp [xt "bool",xl 3]],xp []])]
noncomputable def X540:=zz ZK
noncomputable def Ve:MF:=⟨2,4,X540.m⟩
noncomputable def L545:=zz [ze (xM 1 mAppend (xl 1) [xp [x2 vItem (xc 495 []) (xc 516 [xl 0,xi 7]),x2 vItem (xc 502 []) (xc 516 [xl 0,xi 6])]])]
noncomputable def K545:=bE (xR bTrue) (xc 533 [xl 1,xl 2])
noncomputable def K545a:=bE (xR bTrue) (xc 540 [xl 1,xl 2])
noncomputable def Qy:List XS:=[za (xN [xp [xt "b0",xp [xp [xi 0,xi 1]]],xp [xt "b1",xp [xp [xi 0,xi 1]]]]) (uv 1),zy (zf (iR [x2 vAdd (xi 1) (xc 516 [xl 0,xi 2])]) (uv 2) L545),za (xf bLen [xl 1]) (uv 3),za (xk (iR [x2 vAdd (xi 1) (xc 516 [xl 0,xi 2])]) (uv 0) K545 [none,some 0,some 3]) (uv 4),za (x2 vItem (xL [xt "satisfy",xt "minimize",xt "maximize"]) (xc 516 [xl 0,xi 3])) (uv 5),za (xp [xl 5,pU (t2 vEq (xl 5) (xt "satisfy")) xn (xc 516 [xl 0,xl 3])]) (uv 6),zr (xp [xz (xl 1),xl 4,xl 6,xf bTuple [xk (iR [xc 516 [xl 0,xi 3]]) (uv 0) K545a [none,some 0,some 3]]])]
noncomputable def X545:=zz Qy
noncomputable def Vf:MF:=⟨1,7,X545.m⟩
noncomputable def K550:=bE (t2 vNotIn (xl 0) (x2 vAdd (xl 1) (xt "0123456789"))) (xl 0)
noncomputable def X550:=zz [za (xt "abcdefghijklmnopqrstuvwxyz_") (uv 1),zr (xe (ta (t2 vNe (xl 0) (xD (.str []))) (ta (t2 vIn (x2 vItem (xl 0) (xi 0)) (xl 1)) (t2 vEq (xk (iS (xl 0)) (uv 0) K550 [none,some 1]) (xL [])))))]
noncomputable def Vg:MF:=⟨1,2,X550.m⟩
noncomputable def K555:=bE (xR bTrue) (xM 2 mGet (xl 1) [xl 0,xl 0])
noncomputable def X555:=zz [za (xNF [(tx "\"",xt "\\\""),(tx "\\",xt "\\\\"),(tx "\n",xt "\\n")]) (uv 1),zr (x2 vAdd (x2 vAdd (xt "\"") (xM 0 mJoin (xD (.str [])) [xk (iS (xl 0)) (uv 0) K555 [none,some 1]])) (xt "\""))]
noncomputable def Vh:MF:=⟨1,2,X555.m⟩
noncomputable def L562:=zz [za (x2 vAdd (x2 vAdd (xl 2) (pU (t2 vGt (xl 4) (xi 0)) (xL [xt ",",xt " "]) (xL []))) (xc 562 [x2 vItem (xl 3) (xl 4)])) (uv 2)]
noncomputable def X562:=zz [zi (t1 vTrue (xe (ti 1 (xl 0)))) [zr (xL [pU (t1 vTrue (xl 0)) (xt "true") (xt "false")])] [],zi (t1 vTrue (xe (ti 0 (xl 0)))) [zr (xL [xf bStr [xl 0]])] [],zi (t1 vTrue (xe (ti 3 (xl 0)))) [zr (xL [xc 555 [xl 0]])] [],za (xe (ta (t2 vGt (xf bLen [xl 0]) (xi 0)) (ti 3 (x2 vItem (xl 0) (xi 0))))) (uv 1),za (pU (t1 vTrue (xl 1)) (xL [x2 vItem (xl 0) (xi 0),xt "("]) (xL [xt "["])) (uv 2),za (pU (t1 vTrue (xl 1)) (xu (xl 0) (xi 1) xn) (xl 0)) (uv 3),zy (zf (iR [xf bLen [xl 3]]) (uv 4) L562),zr (x2 vAdd (xl 2) (xL [pU (t1 vTrue (xl 1)) (xt ")") (xt "]")]))]
noncomputable def Vi:MF:=⟨1,5,X562.m⟩
noncomputable def L569:=zz [za (x2 vAdd (x2 vAdd (xl 1) (pU (t2 vGt (xl 2) (xi 0)) (xL [xt ",",xt " "]) (xL []))) (xL [xf bStr [x2 vItem (x2 vItem (xl 0) (xl 2)) (xi 0)],xt "..",xf bStr [x2 vItem (x2 vItem (xl 0) (xl 2)) (xi 1)]])) (uv 1)]
noncomputable def X569:=zz [za (xL []) (uv 1),zy (zf (iR [xf bLen [xl 0]]) (uv 2) L569),zr (pU (t2 vEq (xf bLen [xl 0]) (xi 1)) (xl 1) (x2 vAdd (x2 vAdd (xL [xt "{"]) (xl 1)) (xL [xt "}"])))]
noncomputable def Vj:MF:=⟨1,3,X569.m⟩
noncomputable def L576:=zz [za (xL [xt ":",xt " ",pU (t1 vTrue (xc 550 [xl 6])) (xl 6) (xc 555 [xl 6])]) (uv 8),ze (xM 1 mAppend (xl 5) [x2 vAdd (x2 vAdd (x2 vAdd (xL [xt "var",xt " "]) (xc 569 [xl 7])) (xl 8)) (xL [xt ";",xt "\n"])])]
noncomputable def L576a:=zz [ze (xM 1 mAppend (xl 5) [x2 vAdd (x2 vAdd (xL [xt "constraint",xt " "]) (xc 562 [xl 9])) (xL [xt ";",xt "\n"])])]
noncomputable def X576:=zz [za (xl 0) (up [uv 1,uv 2,uv 3,uv 4]),za (xN []) (uv 5),zf (iE (xl 1)) (up [uv 6,uv 7]) L576,zf (iE (xl 2)) (uv 9) L576a,ze (xM 1 mAppend (xl 5) [x2 vAdd (x2 vAdd (xL [xt "solve",xt " ",x2 vItem (xl 3) (xi 0)]) (pU (t2 vIsNone (x2 vItem (xl 3) (xi 1)) xn) (xL []) (xL [xt " ",xf bStr [x2 vItem (xl 3) (xi 1)]]))) (xL [xt ";",xt "\n"])]),zr (x2 vAdd (xl 5) (xL [x2 vAdd (x2 vAdd (xL [xt "output",xt " "]) (xc 562 [xl 4])) (xL [xt ";",xt "\n"])]))]
noncomputable def Vk:MF:=⟨1,10,X576.m⟩
noncomputable def K581:=bE (xR bTrue) (xM 0 mJoin (xD (.str [])) [xl 0])
noncomputable def X581:=zz [zr (xM 0 mJoin (xD (.str [])) [xk (iE (xl 0)) (uv 0) K581 [none]])]
noncomputable def Vl:MF:=⟨1,1,X581.m⟩
noncomputable def L588:=zz [za (x2 vAdd (xl 3) (xi 7)) (uv 3),zi (to (t2 vEq (xl 5) (xt " ")) (to (t2 vEq (xl 5) (xt "\n")) (tq false))) [ze (xM 1 mAppend (xl 2) [x2 vItem (xL [xt " ",xt "\n",xt " % so; it is\n",xt "\t ",xt "  "]) (x2 vMod (xl 3) (xi 5))])] [ze (xM 1 mAppend (xl 2) [x2 vAdd (xl 5) (pU (t2 vGt (x2 vMod (xl 3) (xi 4)) (xi 0)) (xD (.str [])) (xt " "))])]]
noncomputable def L588a:=zz [zf (iE (xl 4)) (uv 5) L588]
noncomputable def ZL:List XS:=[za (xp [xN [],xl 1]) (u2 2 3),zf (iE (xl 0)) (uv 4) L588a,zr (xM 0 mJoin (xD (.str [])) [xl 2])]
noncomputable def X588:=zz ZL
noncomputable def Vm:MF:=⟨2,6,X588.m⟩
noncomputable def X595:=zz [zt (zz [za (xc 488 [xl 0]) (uv 2)]),zr (xe (t2 vEq (xf bRepr [xL [RX 0 (xl 2),RX 1 (xl 2),xa 2 (xl 2),xa 3 (xl 2)]]) (xf bRepr [xf bList [xl 1]])))]
noncomputable def Vn:MF:=⟨2,3,X595.m⟩
noncomputable def X602:=zz [zk 0 1 [ze (xc 488 [xl 0])],zr (xD (.bool false))]
noncomputable def Vo:MF:=⟨2,3,X602.m⟩
noncomputable def L609:=zz [zi (t2 vIn (x2 vItem (xl 4) (xl 5)) (xt "xb")) [zr (x2 vAdd (x2 vAdd (xu (xl 1) xn (x2 vAdd (xl 5) (xi 1))) (xp [xl 2])) (xu (xl 1) (x2 vAdd (xl 5) (xi 2)) xn))] [],zi (t2 vEq (x2 vItem (xl 4) (xl 5)) (xt "X")) [zr (x2 vAdd (x2 vAdd (xu (xl 1) xn (x2 vAdd (xl 5) (xi 1))) (xp [x2 vAdd (xp [xl 2]) (xu (x2 vItem (xl 1) (x2 vAdd (xl 5) (xi 1))) (xi 1) xn)])) (xu (xl 1) (x2 vAdd (xl 5) (xi 2)) xn))] []]
noncomputable def ZM:List XS:=[za (xc 516 [xl 0,xi 5]) (uv 3),zi (t2 vEq (xl 3) (xi 0)) [zr (x2 vAdd (xp [xt "nosuch"]) (xu (xl 1) (xi 1) xn))] [],zi (t2 vEq (xl 3) (xi 1)) [zr (xu (xl 1) xn (x1 vNeg (xi 1)))] [],zi (t2 vEq (xl 3) (xi 2)) [zr (x2 vAdd (xl 1) (xp [xi 0]))] [],zi (t2 vEq (xl 3) (xi 3)) [zr (x2 vAdd (x2 vAdd (xu (xl 1) xn (xi 1)) (xp [xD (.bool true)])) (xu (xl 1) (xi 2) xn))] [],za (x2 vItem (xf bDict [xc 509 []]) (x2 vItem (xl 1) (xi 0))) (uv 4),zy (zf (iR [xf bLen [xl 4]]) (uv 5) L609),zr (x2 vAdd (x2 vAdd (xu (xl 1) xn (xi 1)) (xp [xp [xl 2]])) (xu (xl 1) (xi 2) xn))]
noncomputable def X609:=zz ZM
noncomputable def Vp:MF:=⟨3,6,X609.m⟩
noncomputable def L616:=zz [za (x2 vAdd (xl 9) (xf bLen [xM 0 mJoin (xD (.str [])) [xl 10]])) (uv 9),za (x2 vAdd (xl 8) (xL [x2 vSub (xl 9) (xi 1),xl 9])) (uv 8)]
noncomputable def LS:List XS:=[za (xl 2) (up [uv 4,uv 5,uv 6,uv 7]),za (xp [xL [xi 0],xi 0]) (u2 8 9),zf (iE (xl 1)) (uv 10) L616,zi (t2 vNotIn (xl 3) (xl 8)) [zr (xc 602 [xu (xl 0) xn (xl 3),x1 vNeg (xi 1)])] [],za (x2 vDiv (x2 vAdd (xM 1 mIndex (xl 8) [xl 3]) (xi 1)) (xi 2)) (uv 11),za (x2 vSub (x2 vSub (xl 11) (xf bLen [xl 4])) (xf bLen [xl 5])) (uv 12),za (xL [xu (xl 4) xn (xl 11),xu (xl 5) xn (xf bMax [xi 0,x2 vSub (xl 11) (xf bLen [xl 4])])]) (uv 13),zr (xc 595 [xu (xl 0) xn (xl 3),x2 vAdd (xl 13) (xL [pU (t2 vGt (xl 12) (xi 0)) (xl 6) (xp [xt "satisfy",xn]),pU (t2 vGt (xl 12) (xi 1)) (xl 7) (xp [])])])]
noncomputable def X616:=zz LS
noncomputable def Vq:MF:=⟨4,14,X616.m⟩
noncomputable def K621:=bE (xR bTrue) (xf bInt [xl 0])
noncomputable def L621:=zz [ze (xm 0 126 (xl 7) [xl 8,xl 9])]
noncomputable def L621a:=zz [ze (xm 0 133 (xl 7) [xl 10])]
noncomputable def K621a:=bE (xR bTrue) (pU (t2 vNe (xl 0) (xl 2)) (x2 vItem (xl 4) (xl 0)) (xc 609 [xl 1,x2 vItem (xl 4) (xl 2),xl 3]))
noncomputable def D1:List XS:=[za (xND [(tx "cells",pU (t2 vNe (xl 0) (xL [])) (xk (iE (xu (xl 0) xn (xi 40))) (uv 0) K621 [none]) (xL [xi 3,xi 1,xi 4,xi 0,xi 5,xi 2,xi 6,xi 9])),(tx "at",xi 0)]) (uv 1),za (xc 545 [xl 1]) (uv 2),za (xl 2) (up [uv 3,uv 4,uv 5,uv 6]),za (xc 150 []) (uv 7),zf (iE (xl 3)) (up [uv 8,uv 9]) L621,zf (iE (xl 4)) (uv 10) L621a,za (xp [xl 5,xl 6]) (up [ua 2 (xl 7),ua 3 (xl 7)]),za (xc 576 [xl 2]) (uv 11),za (xc 581 [xl 11]) (uv 12),zi (to (t2 vNe (xc 259 [xl 7]) (xl 12)) (to (tn (t1 vTrue (XN 595 [xl 12,xl 2]))) (to (t2 vNe (xcG 259 488 12) (xl 12)) (tq false)))) [zr (xD (.bool false))] [],za (xp [xl 11,xf bLen [xl 3]]) (up [uv 13,uv 14]),zi (t2 vEq (xc 516 [xl 1,xi 2]) (xi 0)) [za (x2 vAdd (xu (xl 11) (xl 14) xn) (xu (xl 11) xn (xl 14))) (uv 13)] [],zi (tn (t1 vTrue (XN 595 [xc 588 [xl 13,xc 516 [xl 1,xi 20]],xl 2]))) [zr (xD (.bool false))] [],za (xc 516 [xl 1,xf bLen [xl 4]]) (uv 15),za (xk (iR [xf bLen [xl 4]]) (uv 0) K621a [none,some 1,some 15,some 14,some 4]) (uv 16),za (x2 vAdd (xf bLen [xc 581 [xu (xl 11) xn (x2 vAdd (xl 14) (xl 15))]]) (xf bLen [xt "constraint "])) (uv 17),zi (tn (t1 vTrue (XN 602 [xc 581 [xc 576 [xp [xl 3,xl 16,xl 5,xl 6]]],xl 17]))) [zr (xD (.bool false))] [],zr (XN 616 [xl 12,xl 11,xl 2,xc 516 [xl 1,x2 vAdd (xf bLen [xl 12]) (xi 1)]])]
noncomputable def X621:=zz D1
noncomputable def Ft:MF:=⟨1,18,X621.m⟩
noncomputable def X415:=zz [za (xc 150 []) (ua 8 (xl 0)),za (xN []) (ua 9 (xl 0)),za (x1 vNeg (xi 1)) (ua 10 (xl 0)),za (x1 vNeg (xi 1)) (ua 11 (xl 0))]
noncomputable def I8:MF:=⟨2,2,X415.m⟩
noncomputable def TT:Tab:=[(119,Uh),(126,Ui),(133,Uj),(140,Uk),(147,Ul),(161,Um),(166,Un),(173,Uo),(178,Up),(183,Uq),(188,Us),(195,Ut),(200,Uu),(207,Uv),(214,Uw),(219,Ux),(226,Uy),(233,Uz),(240,UA),(247,UB),(252,UC),(259,UE),(273,UG),(280,UH),(287,UI),(294,UJ),(301,UK),(308,UL),(315,UM),(336,UN),(343,UO),(350,UP),(357,UQ),(364,UR),(371,US),(378,UU),(385,UW),(392,UX),(422,UY),(429,UZ),(436,U0),(443,U1),(450,U2),(457,U3),(464,U5),(471,U6),(476,U7),(488,U8),(495,U9),(502,U'),(509,U_),(516,Va),(521,Vb),(526,Vc),(533,Vd),(540,Ve),(545,Vf),(550,Vg),(555,Vh),(562,Vi),(569,Vj),(576,Vk),(581,Vl),(588,Vm),(595,Vn),(602,Vo),(609,Vp),(616,Vq),(621,Ft),(415,I8)]
noncomputable def Fu{α β:Type}(f:α->Option β)(l:List α):Option (List β):=match l with
 |[]=>some []
 |v::r=>(f v).bind λd=>(Fu f r).map (d::·)
theorem Cr{α β:Type}{f:α->Option β}{R:α->β->Prop}(hf:∀v d,f v=some d->R v d){vs:List α}:∀{l:List β},Fu f vs=some l->dp R vs l:=by
 induction vs with
 |nil=>exact λh=>by cases h;rfl
 |cons v r ih=>
  intro l h;obtain ⟨d,h1,h2⟩:=aS.mp h;obtain ⟨l',h3,rfl⟩:=a_.mp h2;exact .mk rfl (hf _ _ h1) (ih h3)
noncomputable def NV:Data->Option (Array Value×Nat)
 | .seq vs n=>some (vs,n)
 |_=>none
theorem D2(h:NV d=some q):d= .seq q.1 q.2:=by cases d<;>cases h;rfl
noncomputable def XO(K:Frag)(n:Nat)(v:Value):Option D:=match n with
 |0=>none
 |n+1=>match v with
  | .int i _=>some (.int i)
  | .str s _=>some (.str s.cps.toList)
  | .ref a=>(K.lookup a).bind λo=>(NV o.data).bind λq=>bif o.cls== .type "tuple" then (Fu (XO K n) q.1.toList).map .tup else none
  |_=>none
theorem I9{K:Frag}{n:Nat}:∀{v:Value} {d:D},XO K n v=some d->RD (λa=>K.lookup a) v d:=by
 induction n with
 |zero=>exact nofun
 |succ n ih=>
  intro v d h;cases v with
  |int i t=>cases h;exact ⟨t,rfl⟩
  |str s t=>cases h;exact ⟨t,rfl⟩
  |ref a=>
   obtain ⟨o,h1,h2⟩:=aS.mp (h);obtain ⟨q,h3,h4⟩:=aS.mp h2;cases hc:o.cls==Ez "tuple"<;>rw [hc] at h4
   ·exact absurd h4 nofun
   ·obtain ⟨l,h5,rfl⟩:=a_.mp h4;exact .mk rfl h1 (eq_of_beq hc) (D2 h3) nofun (fI.of (Cr (λU U=>ih) h5))
  |_=>cases h
noncomputable def XP(K:Frag)(o:Option (Option Value)):Option D:=o.bind λv=>v.bind (XO K 5)
theorem D3{K:Frag}{d:D}(h:XP K o=some d):∃v,o=some (some v)/\RD (λa=>K.lookup a) v d:=by
 refine cps λP9 k9=>?_
 obtain ⟨q,h1,h2⟩:=aS.mp h;obtain ⟨v,h3,h4⟩:=aS.mp h2;exact k9 ⟨v,h1.trans (congrArg some h3),I9 h4⟩
noncomputable def NW:Data->Option (Array bh×Nat)
 | .dict es n=>some (es,n)
 |_=>none
theorem D4(h:NW d=some q):d= .dict q.1 q.2:=by cases d<;>cases h;rfl
noncomputable def keyOf:Value->Option Tx
 | .str s _=>some s.cps.toList
 |_=>none
theorem D5(h:keyOf v=some k):∃t,v= .str (S k) t:=by cases v<;>cases h;exact ⟨_,rfl⟩
noncomputable def rdE(K:Frag)(e:bh):Option (Int×Tx×D):=(keyOf e.key).bind λk=>(XO K 5 e.val).map λd=>(e.hash,k,d)
structure Vs(K:Frag)(e:bh)(q:Int×Tx×D):Prop where
 hash:e.hash=q.1
 key:∃t,e.key= .str (S q.2.1) t
 val:RD (λa=>K.lookup a) e.val q.2.2
theorem Qz{K:Frag}(e:bh)(q:Int×Tx×D)(h:rdE K e=some q):Vs K e q:=by
 obtain ⟨k,h1,h2⟩:=aS.mp h;obtain ⟨d,h3,rfl⟩:=a_.mp h2;exact ⟨rfl,D5 h1,I9 h3⟩
noncomputable def Vt(o:Option (Option Value)):Option Addr:=o.bind λv=>v.bind λv=>bif v== .ref (refOf v) then some (refOf v) else none
theorem GU(h:Vt o=some a):o=some (some (.ref a)):=by
 obtain ⟨q,h1,h2⟩:=aS.mp h;obtain ⟨v,h3,h4⟩:=aS.mp h2;cases hc:v==dC (refOf v)<;>rw [hc] at h4
 ·cases h4
 ·cases h4;exact h1.trans (congrArg some (h3.trans (congrArg some (eq_of_beq hc))))
noncomputable def NX(K:Frag)(o:Option (Option Value)):Option (List (Int×Tx×D)):=(Vt o).bind λa=>(K.lookup a).bind λob=>(NW ob.data).bind λq=>bif !(a==gN)&&(ob.cls== .type "dict"&&(ob.dict.isNone&&ob.slots.isEmpty)) then Fu (rdE K) q.1.toList else none
theorem I'{K:Frag}{o:Option (Option Value)}{l:List (Int×Tx×D)}(h:NX K o=some l):∃a es n,o=some (some (.ref a))/\(a==gN)=false/\K.lookup a=some (dh es n)/\dp (Vs K) es l:=by
 refine cps λP9 k9=>?_
 obtain ⟨a,h1,h2⟩:=aS.mp h;obtain ⟨ob,h3,h4⟩:=aS.mp h2;obtain ⟨q,h5,h6⟩:=aS.mp h4;cases hc:!(a==gN)&&(ob.cls==Ez "dict"&&(ob.dict.isNone&&ob.slots.isEmpty))<;>rw [hc] at h6
 ·exact absurd h6 nofun
 ·have c1:=jx hc;refine k9 ⟨a,q.1.toList,q.2,GU h1,GF c1.1,?_,Cr Qz h6⟩
  simp only [h3];obtain ⟨oc,od,odt,os⟩:=ob;obtain rfl:=(eq_of_beq (jx c1.2).1);obtain rfl:=(ee.mp (jx (jx c1.2).2).1);obtain rfl:=(D4 h5:odt=_);obtain rfl:=(Array.isEmpty_iff.mp (jx (jx c1.2).2).2);rfl
theorem Vs.rows{K:Frag}:∀{es:List bh},dp (Vs K) es (l.map λp=>(cZ P (S p.1),p))->F4 P (λa=>K.lookup a) es l:=by
 induction l with
 |nil=>exact λh=>h
 |cons p l ih=>exact λh=>kJ.imp h (λU q=>q.key.elim λt k=>.mk q.hash k q.val) λU q=>ih q
noncomputable def Vu:List Pos:=[⟨13,8,13,13⟩,⟨13,8,13,15⟩,⟨13,8,13,24⟩,⟨13,25,13,29⟩,⟨13,8,13,30⟩,⟨13,8,13,30⟩,⟨14,8,14,12⟩,⟨14,8,14,17⟩,⟨14,20,14,24⟩,⟨14,8,14,24⟩]
noncomputable def Vv:List Pos:=[⟨5,8,5,13⟩,⟨5,8,5,15⟩,⟨5,8,5,24⟩,⟨5,25,5,29⟩,⟨5,8,5,30⟩,⟨5,8,5,30⟩,⟨6,8,6,12⟩,⟨6,8,6,17⟩,⟨6,20,6,24⟩,⟨6,8,6,24⟩]
structure w7(P:hY)(K:Frag):Prop where
 fns:o8.all (λp=>nsIn K cv p.1==some (some (.ref p.2))&&x4 K (.ref p.2))=true
 bare:kR.all (λx=>nsIn K cv x==some none)=true
 txts:strTab.map (λp=>XP K (nsIn K cv p.1))=strTab.map (λp=>some (.str p.2))
 most:XP K (nsIn K cv (ah "MOST_DIGITS"))=some (.int 1000)
 tabs:tX.map (λp=>XP K (nsIn K cv p.1))=tX.map (λp=>some p.2)
 dics:v_.map (λp=>NX K (nsIn K cv p.1))=v_.map (λp=>some (p.2.map λq=>(cZ P (S q.1),q)))
 meths:wa.all (λp=>tO K (dq p.1) p.2.1&&(gq K (.ref (dq p.1)) p.2.1==some (some (.ref p.2.2))&&(isFn K (.ref p.2.2)&&x4 K (.ref p.2.2))))=true
 attrs:Bk.all (λp=>gq K (.ref (dq p.1)) (du p.2)==some none&&takerIn K (dq p.1) (du p.2)==some none)=true
 cls:[0,1,2].all (λc=>tO K (dq c) (du 0)&&(uK K (dq c)&&(zF K (dq c)&&(gq K (.ref (dq c)) "__setattr__"==some (some (.builtin "object.__setattr__"))))))=true
 ks:KS K
 kn:KN K
 kx:KX K
 s59:yL K 59 47 69 81
 s30:yL K 30 18 40 81
 m59:eM K 81 69 "__init__"=some (some (.ref 30))
 m30:eM K 81 40 "__init__"=some (some (.builtin "Exception.__init__"))
 t30:m_ K (.ref 30)=some (.type "function")
 n30:gX K 30=true
 f59:(n4 K 59).map (λfd=>(jb fd.body,fd.params.args.map (·.arg),fd.scope.names.lookup eg,fd.scope.names.lookup d9))=some (some (v8 d9 Vu),[eo,eg,d9],some .local,some .local)
 f30:(n4 K 30).map (λfd=>(jb fd.body,fd.params.args.map (·.arg),fd.scope.names.lookup eg))=some (some (v8 eg Vv),[eo,eg],some .local)
 s415:yL K 415 403 479 479
 m415:eM K 479 479 "__init__"=some (some (.ref 336))
 t336:m_ K (.ref 336)=some (.type "function")
 n336:gX K 336=true
 Vx:nsIn K cv (ah "law")=some (some (.ref 621))
 tab:TT.map (λp=>cond (bH p.1 415) (some p.2) ((rdF K p.1).map (·.1)))=TT.map (λp=>some p.2)
 last:(Qs K).map (·.1)=some I8.body
theorem w7.kf{P:hY}{K:Frag}(k:w7 P K):KF P K where
 fns:=k.fns
 bare:=k.bare
 txts:=λp hp=>by
  obtain ⟨v,h,t,e⟩:=D3 (d5.mp k.txts p hp);exact ⟨t,e▸h⟩
 most:=by
  obtain ⟨v,h,t,e⟩:=D3 k.most;exact ⟨t,e▸h⟩
 tabs:=λp hp=>by
  obtain ⟨v,h,r⟩:=D3 (d5.mp k.tabs p hp);have ht:=aJ.mp (show tX.all (λp=>p.2.jz (λU=>true) false)=true from rfl) p hp
  obtain ⟨x,d⟩:=p;cases d with
  |tup l=>cases r with|mk e a b c d f=>subst e;exact ⟨_,h,.mk rfl a b c d f⟩
  |_=>cases ht
 dics:=λp hp=>by
  obtain ⟨a,es,n,h1,h2,h3,h4⟩:=I' (d5.mp k.dics p hp);exact ⟨a,es,n,h1,h2,h3,Vs.rows h4⟩
 meths:=k.meths
 attrs:=k.attrs
 cls:=k.cls
theorem w7.ki{P:hY}{K:Frag}(k:w7 P K):KI K where
 s59:=k.s59
 s30:=k.s30
 m59:=k.m59
 m30:=k.m30
 t30:=k.t30
 n30:=k.n30
 f59:=by
  obtain ⟨fd,h1,h2⟩:=a_.mp k.f59;simp only [yF] at h2;exact ⟨fd,Vu,h1,h2.1,h2.2.1,h2.2.2.1,h2.2.2.2,rfl⟩
 f30:=by
  obtain ⟨fd,h1,h2⟩:=a_.mp k.f30;simp only [yF] at h2;exact ⟨fd,Vv,h1,h2.1,h2.2.1,h2.2.2,rfl⟩
 s415:=k.s415
 m415:=k.m415
 t336:=k.t336
 n336:=k.n336
theorem NY{α:Type}{p:α->Prop}{o:Cf p}{a:α}(h:o.map (·.1)=some a):p a:=by
 cases o with
 |none=>cases h
 |some q=>cases h;exact q.2
theorem I_{α:Type}{x:Nat}{k:α}{l:List (Nat×α)}:l.lookup x=some k->(x,k)∈l:=by
 induction l with
 |nil=>exact nofun
 |cons p r ih=>
  intro h;rw[cz] at h;cases q:x==p.1<;>rw [q] at h
  ·exact .tail _ (ih h)
  ·cases h;cases eq_of_beq q;exact .head _
theorem w7.NZ{W:Wd}{P:hY}(k:w7 P W.K):Cj W TT where
 fns:=λf m h hf=>NY (o:=rdF W.K f) (by
  have e:=d5.mp k.tab (f,m) (I_ h);have hb:bH f 415=false:=by cases q:bH f 415 with
   |false=>rfl
   |true=>exact absurd (dP q) hf
  rwa [hb] at e)
 last:=NY k.last
noncomputable def Fv:Prop:=∀l:List Int,l.length<=63->∃τ,dI Ft (aQ TT 60) [.raw (l.map .int)] []= .ok (.d (.bool true)) τ
theorem LU(h:IntsAre vs l):fI B vs (l.map .int):=by
 induction h with
 |nil=>exact rfl
 |cons n t U ih=>exact .mk rfl ⟨_,rfl⟩ ih
theorem XQ{W:Wd}(hL:Fv)(k:w7 W.w.params W.K)(X:W.K.In W.base)(T:Top W.p W.loose W.KJ W.mg W.mb W.base)(hf:((W.prog.main.file:Str)==(ah "/claim/cut.py"))=true)(ht:(W.prog.main.scope.names.lookup ("super":Str)).isSome=false)
  {s:aI} (hs:s.heap=W.base) (hg:s.gens=W.g/\s.os=W.o) {fa a:Addr} (hmg:W.mg (ah "law")=some (.ref fa)) {vs:List Value} {l:List Int} (hl:s.heap.IsList a vs.toArray) (hi:IntsAre vs l) (h63:l.length<=63) {Q E:Value->aI->Prop}
  (hQ:∀s',(∀b o,s.heap.get? b=some o->s'.heap.get? b=some o)->s'.gens=s.gens->s'.os=s.os->Q (.bool true) s'):
  aO (bS W.prog W.w) Bb (call (.ref fa) [.ref a]) Q E s:=by
 refine cps λP9 k9=>?_
 have e:=mg_of X T.g k.Vx;rw[hmg] at e
 cases e;obtain ⟨F,vars,h1,h2⟩:=k.NZ.fns 621 Ft rfl (by decide)
 obtain ⟨τ,hr⟩:=hL l h63;obtain ⟨o,ho,hc,n,hd⟩:=hl;refine k9 ?_;refine I6 (⟨X,k.kf,T,⟨hf,ht,k.ks,k.kn,k.kx,k.ki⟩⟩) k.NZ h1 h2 (aa rfl) hs hg (show o7 (GR W) [.ref a] [.raw (l.map .int)] from kJ.mk rfl (dB.mk (B:=λa=>W.base.get? a) rfl (by rw[<-hs];exact ho) hc hd nofun (LU hi)) rfl) hr λv s' B rv hB k1 k2 k3=>?_
 rw[show v= .bool true from rv]
 exact hQ s' k1 k2 k3
noncomputable def kF:Ks (Res V):=λf ρ τ U U=>some ([],fin (.ok f ρ τ))
noncomputable def ZO:Ky (Res V):=λi U U=>some ([],.exc i)
noncomputable def kE{α:Type}:Kn (Res α) α:=λv τ U U=>some ([],.ok v τ)
noncomputable def kEx{α:Type}:Kx (Res α):=λi U=>some ([],.exc i)
noncomputable def kS:Ks RS:=λf ρ τ U U=>some ([],.ok f ρ τ)
noncomputable def kSx:Ky RS:=λi ρ U=>some ([],.exc i ρ)
section
theorem GE{ω:Type}{as:As}{R r:ω}(h:G as R (some ([],r))):r=R:=by injection h with h;injection h with _ h
theorem ws{X:XS}{R:RS}(as:As)(h:X.x C ρ σ 0 as kS kSx=some (as.map An.q,R):=by kernel_rfl):X.m C ρ σ=R:=X.ok (T:=λr=>r=R) (λU U U U U h=>GE h) (λU U U h=>GE h) h
theorem we{α:Type}{X:X α}{R:Res α}(as:As)(h:X.x C ρ σ 0 as kE kEx=some (as.map An.q,R):=by kernel_rfl):X.m C ρ σ=R:=X.ok (T:=λr=>r=R) (λU U U U h=>GE h) (λU U h=>GE h) h
theorem wf{X:XS}{R:Res V}(as:As)(h:X.x C ρ σ 0 as kF ZO=some (as.map An.q,R):=by kernel_rfl):fin (X.m C ρ σ)=R:=X.ok (T:=λr=>fin r=R) (λU U U U U h=>GE h) (λU U U h=>GE h) h
theorem Ja(l l':List XS):(zz (l++l')).m C ρ σ=((zz l).m C ρ σ).bind ((zz l').m C):=by
 induction l generalizing ρ σ with
 |nil=>rfl
 |cons a l ih=>
  show (a.m C ρ σ).bind ((zz (l++l')).m C)=((a.m C ρ σ).bind ((zz l).m C)).bind _;cases a.m C ρ σ with
  |ok f ρ σ=>cases f with
   |next=>exact ih
   |_=>rfl
  |_=>rfl
theorem wh(e:(aQ TT (m+1)).call i=dI ⟨n,k,(zz (l++l')).m⟩ (aQ TT m))(h:(zz l).m (aQ TT m) (j9 vs k) σ= .ok .next ρ' σ')(hl:vs.length=n:=by rfl):(aQ TT (m+1)).call i vs σ=fin ((zz l').m (aQ TT m) ρ' σ'):=by
 rw[e];exact (if_pos hl).trans (by show fin ((zz (l++l')).m _ _ _)=_;rw[Ja,h];rfl)
theorem wk{X:XS}(as:As)(h:X.x C (j9 vs k) σ 0 as kF ZO=some (as.map An.q,R):=by kernel_rfl)(hl:vs.length=n:=by rfl):dI ⟨n,k,X.m⟩ C vs σ=R:=
 (if_pos hl).trans (wf as h)
theorem wc{X:XS}{i m:Nat}(e:(aQ TT (m+1)).call i=dI ⟨n,k,X.m⟩ (aQ TT m))(as:As)(h:X.x (aQ TT m) (j9 vs k) σ 0 as kF ZO=some (as.map An.q,R):=by kernel_rfl)(hl:vs.length=n:=by rfl):(aQ TT (m+1)).call i vs σ=R:=by
 rw[e];exact wk as h hl
end
section
theorem Vy:(aQ TT (m+1)).call 126=dI ⟨3,3,X126.m⟩ (aQ TT m):=rfl
theorem Vz:(aQ TT (m+1)).call 133=dI ⟨2,2,X133.m⟩ (aQ TT m):=rfl
theorem ZP:(aQ TT (m+1)).call 140=dI ⟨1,1,X140.m⟩ (aQ TT m):=rfl
theorem ZQ:(aQ TT (m+1)).call 147=dI ⟨2,2,X147.m⟩ (aQ TT m):=rfl
theorem ZR:(aQ TT (m+1)).call 161=dI ⟨1,1,X161.m⟩ (aQ TT m):=rfl
theorem ZT:(aQ TT (m+1)).call 166=dI ⟨1,1,X166.m⟩ (aQ TT m):=rfl
theorem VA:(aQ TT (m+1)).call 173=dI ⟨2,2,X173.m⟩ (aQ TT m):=rfl
theorem AA:(aQ TT (m+1)).call 178=dI ⟨3,3,X178.m⟩ (aQ TT m):=rfl
theorem ZU:(aQ TT (m+1)).call 183=dI ⟨1,6,X183.m⟩ (aQ TT m):=rfl
theorem LV:(aQ TT (m+1)).call 188=dI ⟨2,8,(zz (Ur++Qw)).m⟩ (aQ TT m):=rfl
theorem GV:(aQ TT (m+1)).call 195=dI ⟨1,2,X195.m⟩ (aQ TT m):=rfl
theorem Jb:(aQ TT (m+1)).call 207=dI ⟨3,3,X207.m⟩ (aQ TT m):=rfl
theorem ZV:(aQ TT (m+1)).call 214=dI ⟨2,6,X214.m⟩ (aQ TT m):=rfl
theorem QA:(aQ TT (m+1)).call 233=dI ⟨1,1,X233.m⟩ (aQ TT m):=rfl
theorem QC:(aQ TT (m+1)).call 240=dI ⟨2,5,X240.m⟩ (aQ TT m):=rfl
theorem ZW:(aQ TT (m+1)).call 247=dI ⟨1,5,X247.m⟩ (aQ TT m):=rfl
theorem ZX:(aQ TT (m+1)).call 259=dI ⟨1,7,X259.m⟩ (aQ TT m):=rfl
theorem ZY:(aQ TT (m+1)).call 280=dI ⟨1,1,X280.m⟩ (aQ TT m):=rfl
theorem ZZ:(aQ TT (m+1)).call 287=dI ⟨1,2,X287.m⟩ (aQ TT m):=rfl
theorem Z0:(aQ TT (m+1)).call 294=dI ⟨2,4,X294.m⟩ (aQ TT m):=rfl
theorem QD:(aQ TT (m+1)).call 301=dI ⟨1,4,X301.m⟩ (aQ TT m):=rfl
theorem LW:(aQ TT (m+1)).call 308=dI ⟨1,4,X308.m⟩ (aQ TT m):=rfl
theorem vw:(aQ TT (m+1)).call 315=dI ⟨1,3,X315.m⟩ (aQ TT m):=rfl
theorem VB:(aQ TT (m+1)).call 336=dI ⟨2,2,X336.m⟩ (aQ TT m):=rfl
theorem QE:(aQ TT (m+1)).call 343=dI ⟨1,2,X343.m⟩ (aQ TT m):=rfl
theorem Z1:(aQ TT (m+1)).call 350=dI ⟨2,2,X350.m⟩ (aQ TT m):=rfl
theorem QF:(aQ TT (m+1)).call 357=dI ⟨2,2,X357.m⟩ (aQ TT m):=rfl
theorem QH:(aQ TT (m+1)).call 364=dI ⟨1,1,X364.m⟩ (aQ TT m):=rfl
theorem Jc:(aQ TT (m+1)).call 371=dI ⟨2,2,X371.m⟩ (aQ TT m):=rfl
theorem Cs:(aQ TT (m+1)).call 378=dI ⟨2,3,(zz (UT++Qx)).m⟩ (aQ TT m):=rfl
theorem LX:(aQ TT (m+1)).call 385=dI ⟨2,4,X385.m⟩ (aQ TT m):=rfl
theorem VC:(aQ TT (m+1)).call 392=dI ⟨1,4,X392.m⟩ (aQ TT m):=rfl
theorem D6:(aQ TT (m+1)).call 422=dI ⟨2,5,X422.m⟩ (aQ TT m):=rfl
theorem GW:(aQ TT (m+1)).call 429=dI ⟨1,2,X429.m⟩ (aQ TT m):=rfl
theorem Jd:(aQ TT (m+1)).call 436=dI ⟨1,2,X436.m⟩ (aQ TT m):=rfl
theorem VD:(aQ TT (m+1)).call 443=dI ⟨1,1,X443.m⟩ (aQ TT m):=rfl
theorem D7:(aQ TT (m+1)).call 450=dI ⟨2,3,X450.m⟩ (aQ TT m):=rfl
theorem QI:(aQ TT (m+1)).call 457=dI ⟨2,2,X457.m⟩ (aQ TT m):=rfl
theorem VE:(aQ TT (m+1)).call 464=dI ⟨1,2,(zz (U4++I7)).m⟩ (aQ TT m):=rfl
theorem Z2:(aQ TT (m+1)).call 471=dI ⟨3,3,X471.m⟩ (aQ TT m):=rfl
theorem LY:(aQ TT (m+1)).call 476=dI ⟨1,5,X476.m⟩ (aQ TT m):=rfl
theorem LZ:(aQ TT (m+1)).call 488=dI ⟨1,1,X488.m⟩ (aQ TT m):=rfl
theorem Z3:(aQ TT (m+1)).call 516=dI ⟨2,4,X516.m⟩ (aQ TT m):=rfl
theorem Z4:(aQ TT (m+1)).call 521=dI ⟨4,4,X521.m⟩ (aQ TT m):=rfl
theorem w8:(aQ TT (m+1)).call 526=dI ⟨4,6,X526.m⟩ (aQ TT m):=rfl
theorem Z5:(aQ TT (m+1)).call 533=dI ⟨2,7,X533.m⟩ (aQ TT m):=rfl
theorem Je:(aQ TT (m+1)).call 540=dI ⟨2,4,X540.m⟩ (aQ TT m):=rfl
theorem Z6:(aQ TT (m+1)).call 545=dI ⟨1,7,X545.m⟩ (aQ TT m):=rfl
theorem GX:(aQ TT (m+1)).call 562=dI ⟨1,5,X562.m⟩ (aQ TT m):=rfl
theorem VF:(aQ TT (m+1)).call 576=dI ⟨1,10,X576.m⟩ (aQ TT m):=rfl
theorem Z7:(aQ TT (m+1)).call 581=dI ⟨1,1,X581.m⟩ (aQ TT m):=rfl
theorem Z8:(aQ TT (m+1)).call 588=dI ⟨2,6,X588.m⟩ (aQ TT m):=rfl
theorem Z9:(aQ TT (m+1)).call 595=dI ⟨2,3,X595.m⟩ (aQ TT m):=rfl
theorem Z_:(aQ TT (m+1)).call 602=dI ⟨2,3,X602.m⟩ (aQ TT m):=rfl
theorem GY:(aQ TT (m+1)).call 609=dI ⟨3,6,X609.m⟩ (aQ TT m):=rfl
theorem VG:(aQ TT (m+1)).call 616=dI ⟨4,14,X616.m⟩ (aQ TT m):=rfl
end
noncomputable def iO(l:Tx)(c:Nat):Bool:=decide (c∈l)
noncomputable def N0(t:Tx)(i:Int):O:=.inst 1 [(4,.d (.str t)),(5,.d (.int i))]
noncomputable def dV(t u:Tx):Int:=t.length - u.length
noncomputable abbrev sc(t u:Tx):O:=N0 t (dV t u)
noncomputable abbrev cl(n i:Nat):List V->M V:=(aQ TT n).call i
noncomputable abbrev tI(i:Int):V:=.d (.int i)
noncomputable abbrev tS(l:Tx):V:=.d (.str l)
theorem tb{n i:Nat}:clipAt n (i:Int)=min i n:=by
 unfold clipAt;rw[if_neg (eK.mpr (bw i))];rcases oQ i n with h|h
 ·rw[vI (c_.mpr h),gh h,jP (bw i),eE]
 ·rw[Int.min_eq_right (c_.mpr h),Nat.min_eq_right h,jP (bw n),eE]
theorem AB{α:Type}{l:List α}{i j:Nat}:cut l (some (i:Int)) (some (j:Int))=(l.take j).drop i:=by
 show (l.drop (clipAt l.length i)).take (clipAt l.length j - clipAt l.length i)=_;rw[tb,tb,<-qd,<-gp,qd,<-List.drop_eq_drop_min,qd];rcases oQ i l.length with h|h
 ·rw[gh h]
 ·rw[oX h,mZ,mZ]
section
variable{q t u v p l:Tx}
theorem j':dV (q++u) u=(q.length:Int):=by unfold dV;rw[ae,kG,dy]
theorem nC:dV t (c::u)+1=dV t u:=by
 show (t.length - ((u.length+1:Nat):Int))+1=_;rw[kG,<-Int.sub_sub];exact lL _ _
theorem w9(h:p++v<:+t):cut t (some (dV t (p++v))) (some (dV t v))=p:=by
 obtain ⟨q,rfl⟩:=h;rw[j',<-ai,j',AB,xZ,lS]
theorem L4(h:u<:+t):cut t (some (dV t u)) (some (dV t u+1))=u.take 1:=by
 cases u with
 |nil=>
  obtain ⟨q,rfl⟩:=h;exact AB.trans (oX (bG _ _))
 |cons c u=>rw [nC];exact w9 (p:=[c]) h
noncomputable def b8(h:l.length<=lim):Fa (M V):=fq (l:=bLen [tS l]) (if_pos h)
noncomputable def b9(h:l.length<=lim){p:Tx}(e:cut l (some i) (some j)=p):Fa (M V):=fq (l:=mJ (tS l) (tI i) (tI j)) (r:=M.ret (tS p)) (e▸if_pos h)
noncomputable def gG(n:Nat)(r:O)(g:Store)(ht:t.length<=lim)(h:u<:+t):Fa (Res V):=fq (show cl (n+1) 280 [.obj 1] (r::sc t u::g)= .ok (tS (u.take 1)) (r::sc t u::g) from wc ZY [.m 4 (b9 ht (L4 h))])
end
noncomputable def gw(t:MB)(b:MS)(C:nj)(ρ:Env)(σ:Store)(r:RS):Prop:=r≠ .stuck/\∃n,lF n t b C ρ σ=r
section
theorem gw.one(h:t C ρ σ= .ok true σ₁)(hr:r≠ .stuck)(hb:RS.loop (b C ρ σ₁) (λU U=>.stuck)=r):gw t b C ρ σ r:=⟨hr,1,by unfold lF;rw[h];exact hb⟩
theorem gw.stop(h:t C ρ σ= .ok false σ₁):gw t b C ρ σ (.ok .next ρ σ₁):=⟨nofun,1,by unfold lF;rw[h];rfl⟩
theorem gw.turn(h:t C ρ σ= .ok true σ₁)(hb:b C ρ σ₁= .ok .next ρ₂ σ₂)(l:gw t b C ρ₂ σ₂ r):gw t b C ρ σ r:=l.elim λh1 z0=>z0.elim λn h2=>⟨h1,n+1,by unfold lF;rw[h];exact (congrArg (λx=>RS.loop x _) hb).trans h2⟩
theorem gw.out(h:t C ρ σ= .ok true σ₁)(hb:b C ρ σ₁= .ok (.ret v) ρ₂ σ₂):gw t b C ρ σ (.ok (.ret v) ρ₂ σ₂):=.one h nofun (by rw[hb];rfl)
theorem gw.exc(h:t C ρ σ= .ok true σ₁)(hb:b C ρ σ₁= .exc x ρ₂):gw t b C ρ σ (.exc x ρ₂):=.one h nofun (by rw[hb];rfl)
theorem gw.eq(l:gw t b C ρ σ r):om t b C ρ σ=r:=by
 refine l.elim λh1 z0=>z0.elim λn h2=>?_
 rw[Gm t b C (by rw[h2];exact h1),h2]
end
section
variable{q t u v p l:Tx}
theorem b5:vItem (tS l) (tI i)=M.opt ((zS l i).map λch=>tS [ch]):=rfl
theorem Jf(ht:t.length<=lim)(h:c::u<:+t):vItem (tS t) (tI (dV t (c::u)))=M.ret (tS [c]):=by
 obtain ⟨q,rfl⟩:=h;have hq:q.length<(q++c::u).length:=by rw[ae];exact dj (bU _)
 have e:zS (q++c::u) (q.length:Int)=some c:=by
  unfold zS jZ;have hl:=bk hq (show _<=1000000 from ht)
  rw[if_pos ⟨bL (by decide) (bw _),aP.mpr hl⟩,if_neg (eK.mpr (bw _)),if_pos (by rw[decide_eq_true (bw _),decide_eq_true (aP.mpr hq)];rfl)]
  exact (aY (ax _)).trans (by rw[dc];rfl)
 rw[j'];exact b5.trans (congrArg (λo:Option Nat=>M.opt (o.map λch=>tS [ch])) e)
noncomputable def Fw(ht:t.length<=lim)(h:c::u<:+t):Fa (M V):=fq (Jf ht h)
theorem Fx(h:c::u<:+t):decide (dV t (c::u)<t.length)=true:=by
 refine h.elim λq Io=>?_;subst Io
 simp only [j',ae];exact decide_eq_true (aP.mpr (dj (bU _)))
theorem Jg:decide (dV t []<t.length)=false:=decide_eq_false (by rw[show dV t []=t.length from oR _];exact yG _)
noncomputable def eO(t:Tx)(c:Nat)(u:Tx):Fa (M V):=fq (l:=vAdd (tI (dV t (c::u))) (tI 1)) (r:=M.ret (tI (dV t u))) (congrArg (λi=>M.ret (tI i)) nC)
noncomputable def Jh(t:Tx)(c:Nat)(u:Tx):Fa (M V):=fq (l:=vSub (tI (dV t u)) (tI 1)) (r:=M.ret (tI (dV t (c::u)))) (congrArg (λi=>M.ret (tI i)) (by rw[<-nC (c:=c)];exact dy _ _))
noncomputable abbrev L5(l:Tx)(i j:Int):Env:=[some (.obj 1),some (tS l),some (tI i),some (tI j)]
theorem dw(h:c::u<:+t):u<:+t:=(dW c u).trans h
theorem aaa(ht:t.length<=lim)(h:u<:+t):gw T294.m L294.m C (L5 l i (dV t u)) (r::N0 t i::g) (.ok .next (L5 l i (dV t (u.dropWhile (iO l)))) (r::N0 t i::g)):=by
 induction u with
 |nil=>exact .stop (we [.m 1 (b8 ht),.B 1 (Jg (t:=t))])
 |cons c u ih=>
  cases q:iO l c with
  |true=>
   rw[cM q];exact .turn (σ₁:=r::N0 t i::g) (we [.m 1 (b8 ht),.B 1 (Fx h),.m 1 (Fw ht h),.B 1 q]) (ws [.m 0 (eO t c u)]) (ih (dw h))
  |false=>
   rw[gL (ne_true_of_eq_false q)];exact .stop (we [.m 1 (b8 ht),.B 1 (Fx h),.m 1 (Fw ht h),.B 1 q])
theorem aab(ht:t.length<=lim)(h:u<:+t):om T294.m L294.m C (L5 l i (dV t u)) (r::N0 t i::g)= .ok .next (L5 l i (dV t (u.dropWhile (iO l)))) (r::N0 t i::g):=(aaa ht h).eq
theorem GZ(h:u<:+t):cut t (some (dV t u)) (some (dV t (u.dropWhile (iO l))))=u.takeWhile (iO l):=by
 have b:=w9 (t:=t) (by rw[(fJ (p:=iO l))];exact h)
 rwa [(fJ)] at b
noncomputable def Ct(n:Nat)(r:O)(g:Store)(l:Tx)(ht:t.length<=lim)(h:u<:+t):Fa (Res V):=fq (show cl (n+1) 294 [.obj 1,tS l] (r::sc t u::g)= .ok (tS (u.takeWhile (iO l))) (r::sc t (u.dropWhile (iO l))::g) from wc Z0 [.S 4 (aab (C:=aQ TT n) (r:=r) (g:=g) (i:=dV t u) (l:=l) ht h),.m 2 (b9 ht (GZ (l:=l) h))])
end
noncomputable abbrev bl:Tx:=tx " \t\r\n"
noncomputable def rW(c:Nat):Bool:=!(c==10)
class inductive ie:Tx->Tx->Prop
 |stop {u:Tx}:(u.dropWhile (iO bl)).take 1≠[37]->ie u (u.dropWhile (iO bl))
 |more {u x v:Tx}:u.dropWhile (iO bl)=37::x->ie (x.dropWhile rW) v->ie u v
theorem ie.w_(h:ie u v):v<:+u:=by
 induction h with
 |stop U=>exact bW _
 |more e U ih=>exact ih.trans ((bW _).trans ((dW 37 _).trans (e▸bW _)))
section
theorem G0(h:u<:+t):t_ 10 t (dV t u).toNat=if (u.dropWhile rW)=[] then -1 else dV t (u.dropWhile rW):=by
 obtain ⟨q,rfl⟩:=h;have e:u.findIdx (·==10)=(u.takeWhile rW).length:=by
  induction u with
  |nil=>rfl
  |cons c u ih=>
   rw[dM];cases hc:c==10 with
   |true=>rw [lT (by unfold rW;rw[hc];nofun)];rfl
   |false=>rw [lU (by unfold rW;rw[hc];rfl),ih];rfl
 have e2:(u.takeWhile rW).length+(u.dropWhile rW).length=u.length:=by rw[<-ae,fJ]
 unfold t_;rw[j',eE,lS,e];unfold dV;cases hd:u.dropWhile rW with
 |nil=>rw [if_pos (rfl:([]:Tx)=[])];rw[hd] at e2;exact if_neg (by rw[(ae (as:=q) (bs:=u)),<-e2];exact iq _)
 |cons c w=>
  rw[if_neg (jV c w)];rw[hd] at e2;refine (if_pos (by rw[(ae (as:=q) (bs:=u)),<-e2,bP];exact qQ (dj (bU _)) _)).trans ?_
  rw[(ae (as:=q) (bs:=u)),<-e2,<-bo,kG (q.length+_),dy]
theorem j4(h:u<:+t):0<=dV t u/\dV t u<=t.length:=by
 refine h.elim λq Io=>?_;subst Io
 rw[j',ae];exact ⟨bw _,c_.mpr (ak _ _)⟩
theorem aac(ht:t.length<=lim)(h:u<:+t)(s:ie u v):∀o:Option V,∃o',gw T287.m L287.m (aQ TT (n+1)) [some (.obj 1),o] (r::sc t (u.dropWhile (iO bl))::g) (.ok .next [some (.obj 1),o'] (r::sc t v::g)):=by
 induction s with
 |@stop u q=>exact λo=>⟨o,.stop (we [.v 2 (gG n r g ht ((bW (iO bl)).trans h)),.B 1 (beq_eq_false_iff_ne.mpr q)])⟩
 |@more u x v e s ih=>
  have hs:u.dropWhile (iO bl)<:+t:=(bW _).trans h;rw[e] at hs⊢
  have hd:x.dropWhile rW<:+t:=(bW _).trans (dw hs);have m:mFind (tS t) [tS [10],tI (dV t (37::x))]=M.ret (tI (if x.dropWhile rW=[] then -1 else dV t (x.dropWhile rW))):=(if_pos (j4 hs)).trans (by rw[G0 hs];rfl)
  intro o;have t1:T287.m (aQ TT (n+1)) [some (.obj 1),o] (r::sc t (37::x)::g)= .ok true (r::sc t (37::x)::g):=we [.v 2 (gG n r g ht hs)];cases hw:x.dropWhile rW with
  |nil=>
   rw[hw] at m ih hd;exact (ih hd (some (tI (-1)))).elim λo' l=>⟨o',.turn t1 (ws [.M 3 m,.M 3 ((if_pos ht).trans (by rw[show dV t []=t.length from oR _]):bLen [tS t]=M.ret (tI (dV t []))),.v 3 (Ct n r g bl ht hd)]) l⟩
  |cons d w=>
   rw[hw] at m ih hd;exact (ih hd (some (tI (dV t (d::w))))).elim λo' l=>⟨o',.turn t1 (ws [.M 3 m,.B 1 (decide_eq_true (j4 hd).1),.v 3 (Ct n r g bl ht hd)]) l⟩
theorem aad(r:O)(g:Store)(ht:t.length<=lim)(h:u<:+t)(s:ie u v):cl (n+2) 287 [.obj 1] (r::sc t u::g)= .ok (.d .none) (r::sc t v::g):=(aac (n:=n) (r:=r) (g:=g) ht h s none).elim λo' l=>wc ZZ [.v 2 (Ct n r g bl ht h),.S 0 l.eq]
noncomputable def vx(n:Nat)(r:O)(g:Store)(ht:t.length<=lim)(h:u<:+t)(s:ie u v):Fa (Res V):=fq (aad (n:=n) r g ht h s)
end
inductive QR where
 |ok (val rest:Tx)|vy (w:Tx)|zm (w:Tx)
noncomputable def QR.cons(c:Nat):QR->QR
 | .ok v r=>.ok (c::v) r
 | .vy w=>.vy w
 | .zm w=>.zm w
noncomputable def tc:Tx->QR
 |[]=>.zm []
 |c::u=>if c=10 then .zm (c::u) else if c=34 then .ok [] u else if c=92 then (match u with
  |[]=>.vy (c::u)
  |d::u'=>if d=110 then (tc u').cons 10 else if d=34\/d=92 then (tc u').cons d else .vy (c::u)) else (tc u).cons c
noncomputable abbrev txs(l:List Tx):List V:=l.map tS
noncomputable abbrev xb(l:Tx):List Tx:=l.map ([·])
noncomputable abbrev yk(l:Tx):List V:=txs (xb l)
section
variable{σ σ':Store}{k:Nat}{l:List V}{x:V}
theorem tyL(h:σ[k]? =some (.list l)):ww 1 (.obj k) (M.ret (.obj k)) σ= .ok (.obj k) σ:=if_pos (show O.c7 σ[k]? (λU=>some 1) none=some 1 by rw[h];rfl)
theorem apL(h:σ[k]? =some (.list l))(hl:l.length<=lim)(e:σ.set k (.list (l++[x]))=σ'):mAppend (.obj k) [x] σ= .ok (.d .none) σ':=by
 show (ec σ k).elim (Res.stuck:Res V) (λl=>if l.length<=lim then .ok (.d .none) (sR σ k (l++[x])) else .stuck)=_
 rw[show ec σ k=some l by unfold ec;rw[h];rfl]
 exact (if_pos hl).trans (congrArg (Res.ok _) e)
end
section
variable{r s:O}{g:Store}{t u v w x:Tx}{n k c:Nat}{o:O}{b:Int}{acc l:Tx}
theorem AC:(r::s::(g++[o]))[g.length+2]? =some o:=by
 show (g++[o])[g.length]? =some o;rw[aY (ax _),dc];rfl
theorem L6{o':O}:(r::s::(g++[o])).set (g.length+2) o'=r::s::(g++[o']):=by
 show r::s::(g++[o]).set g.length o'=_;rw[jE _ _ (ax _),dc];rfl
theorem te{α:Type}(f:α->D)(l:List α):lD (l.map λx=>.d (f x))=some (l.map f):=by
 induction l with
 |nil=>rfl
 |cons c l ih=>exact (congrArg (oK _) ih).trans rfl
theorem pV(l:List Tx):txts (l.map .str)=some l:=by
 induction l with
 |nil=>rfl
 |cons c l ih=>
  show (D.str c::l.map D.str).mapM (λd=>d.onStr some none)=_
  rw[lM,(show (l.map D.str).mapM (λd=>d.onStr some none)=some l from ih)];rfl
theorem join_nil(l:List Tx):pO [] l=l.flatten:=by
 induction l with
 |nil=>rfl
 |cons x l ih=>cases l with
  |nil=>exact (au x).symm
  |cons y l=>exact (congrArg (x++[]++·) ih).trans (by rw[au];rfl)
theorem VH{ts:List Tx}(h:ts.flatten.length<=lim):mM [] (ts.map .str)=M.ret (tS ts.flatten):=by
 unfold mM;rw[pV];show (if rL ts+ts.length*0<=lim then M.ret (V.d (.str (pO [] ts))) else M.no)=_
 rw[join_nil];exact if_pos (ac (aW kO.symm) h)
theorem joL{σ:Store}{ts:List Tx}(h:σ[k]? =some (.list (txs ts)))(hl:ts.flatten.length<=lim):mJoin (tS []) [.obj k] σ= .ok (tS ts.flatten) σ:=by
 show sF (ofList σ k) _ σ=_;rw[show ofList σ k=some (ts.map .str) by unfold ofList;rw[h];exact te _ _]
 exact congrFun (VH hl) σ
theorem Cu(l:Tx):(xb l).flatten=l:=by
 induction l with
 |nil=>rfl
 |cons c l ih=>exact congrArg (c::·) ih
theorem Ji{d:Nat}:yk acc++[tS [d]]=yk (acc++[d]):=by simp only [yk,txs,xb,aH];rfl
noncomputable abbrev Cv(b:Int)(k:Nat)(o:Option V):Env:=[some (.obj 1),some (tI b),some (.obj k),o]
noncomputable abbrev qS(t u:Tx)(r:O)(g:Store)(acc:Tx):Store:=r::sc t u::(g++[.list (yk acc)])
noncomputable def Jj(t u:Tx)(r:O)(g:Store)(b:Int)(acc:Tx)(x:RS):QR->Prop
 | .ok val rest=>(∃o,x= .ok .next (Cv b (g.length+2) o) (qS t (34::rest) r g (acc++val)))/\34::rest<:+u/\(acc++val).length<=lim
 | .zm w=>(∃o aai,x= .ok .next (Cv b (g.length+2) o) (qS t w r g aai))/\w<:+u/\w.take 1≠[34]
 | .vy w=>(∃ρ,x= .exc (dV t w) ρ)/\w<:+u
theorem Jj.up{y:RS}{d:Nat}{q:QR}(hv:v<:+u)(h:Jj t v r g b (acc++[d]) y q):Jj t u r g b acc y (q.cons d):=by
 cases q with
 |ok val rest=>
  refine h.elim λh1 z0=>z0.elim λh2 h3=>?_
  rw[(ai ..)] at h1 h3;exact ⟨h1,h2.trans hv,h3⟩
 |zm w=>exact ⟨h.1,h.2.1.trans hv,h.2.2⟩
 |vy w=>exact ⟨h.1,h.2.trans hv⟩
theorem uq{c d:Nat}(h:c≠d):(([c]:Tx)==[d])=false:=beq_eq_false_iff_ne.mpr λe=>h (c6 e).1
noncomputable def XR(t u:Tx)(r:O)(g:Store)(d:Nat)(h:acc.length<=lim):Fa (Res V):=fq (l:=mAppend (.obj (g.length+2)) [tS [d]] (qS t u r g acc)) (r:=.ok (.d .none) (qS t u r g (acc++[d])))<|apL AC (by rw[af,af];exact h) (L6.trans (by rw[Ji]))
noncomputable def XU(t u:Tx)(r:O)(g:Store)(acc:Tx):Fa (Res V):=fq (tyL (σ:=qS t u r g acc) (k:=g.length+2) AC)
section
variable(n:Nat)(t:Tx)(r:O)(g:Store)(b:Int)
noncomputable def QG(u acc:Tx)(o:Option V)(q:QR):Prop:=∃x,gw T301.m L301.m (aQ TT (n+1)) (Cv b (g.length+2) o) (qS t u r g acc) x/\Jj t u r g b acc x q
noncomputable def QT(v:Bool)(u acc:Tx)(o:Option V):Prop:=T301.m (aQ TT (n+1)) (Cv b (g.length+2) o) (qS t u r g acc)= .ok v (qS t u r g acc)
noncomputable def QB(u v acc:Tx)(d:Nat)(o:Option V):Prop:=L301.m (aQ TT (n+1)) (Cv b (g.length+2) o) (qS t u r g acc)= .ok .next (Cv b (g.length+2) (some (tS [d]))) (qS t v r g (acc++[d]))
noncomputable def QL(u:Tx):Prop:=∀acc o,acc.length+u.length<=lim->u<:+t->QG n t r g b u acc o (tc u)
end
section
variable{o:Option V}{d:Nat}{q:QR}
theorem QG.turn(tt:QT n t r g b true u acc o)(hb:QB n t r g b u v acc d o)(hv:v<:+u)(h:QG n t r g b v (acc++[d]) (some (tS [d])) q):QG n t r g b u acc o (q.cons d):=h.elim λx z0=>z0.elim λl e=>⟨x,.turn tt hb l,e.up hv⟩
theorem QG.stop(tt:QT n t r g b false u acc o)(h:Jj t u r g b acc (.ok .next (Cv b (g.length+2) o) (qS t u r g acc)) q):QG n t r g b u acc o q:=⟨_,.stop tt,h⟩
theorem QG.bad(ht:t.length<=lim)(h:92::u<:+t)(tt:QT n t r g b true (92::u) acc o)(e:kW [.str [110],.str [34],.str [92]] (.str (u.take 1))=false):QG n t r g b (92::u) acc o (.vy (92::u)):=
 ⟨_,.exc (ρ₂:=Cv b (g.length+2) (some (tS [92]))) tt (ws [.v 2 (gG n r (g++[.list (yk acc)]) ht h),.m 3 (eO t 92 u),.v 3 (gG n r (g++[.list (yk acc)]) ht (dw h)),.B 2 (congrArg not (e)),.m 1 (Jh t 92 u)]),⟨_,rfl⟩,cu _⟩
theorem QB.plain(ht:t.length<=lim)(h:c::u<:+t)(ha:acc.length<=lim)(e:(([c]:Tx)==[92])=false):QB n t r g b (c::u) u acc c o:=ws [.v 2 (gG n r (g++[.list (yk acc)]) ht h),.B 1 e,.v 0 (XU t (c::u) r g acc),.v 0 (XR t (c::u) r g c ha),.m 1 (eO t c u)]
theorem QB.vy{e:Nat}(ht:t.length<=lim)(h:92::d::u<:+t)(ha:acc.length<=lim)(he:d=110/\e=10\/d=e/\(d=34\/d=92)):QB n t r g b (92::d::u) u acc e o:=by
 rcases he with ⟨rfl,rfl⟩|⟨rfl,rfl|rfl⟩
 ·exact ws [.v 2 (gG n r (g++[.list (yk acc)]) ht h),.m 3 (eO t 92 (110::u)),.v 3 (gG n r (g++[.list (yk acc)]) ht (dw h)),.v 5 (gG n r (g++[.list (yk acc)]) ht (dw h)),.v 2 (XU t (110::u) r g acc),.v 0 (XR t (110::u) r g 10 ha),.m 1 (eO t 110 u)]
 ·exact ws [.v 2 (gG n r (g++[.list (yk acc)]) ht h),.m 3 (eO t 92 (34::u)),.v 3 (gG n r (g++[.list (yk acc)]) ht (dw h)),.v 5 (gG n r (g++[.list (yk acc)]) ht (dw h)),.v 4 (gG n r (g++[.list (yk acc)]) ht (dw h)),.v 0 (XU t (34::u) r g acc),.v 0 (XR t (34::u) r g 34 ha),.m 1 (eO t 34 u)]
 ·exact ws [.v 2 (gG n r (g++[.list (yk acc)]) ht h),.m 3 (eO t 92 (92::u)),.v 3 (gG n r (g++[.list (yk acc)]) ht (dw h)),.v 5 (gG n r (g++[.list (yk acc)]) ht (dw h)),.v 4 (gG n r (g++[.list (yk acc)]) ht (dw h)),.v 0 (XU t (92::u) r g acc),.v 0 (XR t (92::u) r g 92 ha),.m 1 (eO t 92 u)]
theorem QT.all(ht:t.length<=lim)(h:u<:+t):QT n t r g b (!kW [.str [],.str [10],.str [34]] (.str (u.take 1))) u acc o:=we [.v 2 (gG n r (g++[.list (yk acc)]) ht h)]
end
theorem QL.cons{c:Nat}(ht:t.length<=lim)(h1:QL n t r g b u)(h2:∀d w,u=d::w->QL n t r g b w):QL n t r g b (c::u):=by
 intro acc o hl h;have tt:=QT.all (n:=n) (r:=r) (g:=g) (b:=b) (acc:=acc) (o:=o) ht h;unfold tc
 by_cases c1:c=10
 ·subst c1;exact .stop tt ⟨⟨o,acc,rfl⟩,cu _,nofun⟩
 rw[if_neg c1]
 by_cases c2:c=34
 ·subst c2;exact .stop tt ⟨⟨o,by rw[au]⟩,cu _,by rw[au];exact (ac (ak ..) hl)⟩
 rw[if_neg c2];have ni:kW [.str [],.str [10],.str [34]] (.str [c])=false:=by
  show (([])==[c]||(([10])==[c]||(([34])==[c]||false)))=false
  simp only [uq (jp c1),uq (jp c2)];rfl
 rw[show zD 1 (c::u)=[c] from rfl,ni] at tt
 by_cases c3:c=92
 ·subst c3;cases u with
  |nil=>exact .bad ht h tt rfl
  |cons d w=>
   have go:=λe he=>QG.turn tt (.vy ht h (ac (ak ..) hl) he) ((dW d w).trans (dW 92 _)) (h2 d w rfl (acc++[e]) (some (tS [e])) (by rw[ae];exact ac (aW (cq acc.length w.length)) (ac (aK (bX _) _) hl)) (dw (dw h)))
   dsimp only
   by_cases d1:d=110
   ·rw[if_pos d1];exact go 10 (.inl ⟨d1,rfl⟩)
   rw[if_neg d1]
   by_cases d2:d=34\/d=92
   ·rw[if_pos d2];exact go d (.inr ⟨rfl,d2⟩)
   rw[if_neg d2];exact .bad ht h tt (by
    show ((([110])==[d])||((([34])==[d])||((([92])==[d])||false)))=false
    simp only [uq (jp d1),uq λe=>d2 (.inl e.symm),uq λe=>d2 (.inr e.symm)];rfl)
 exact (if_neg c3)▸ .turn tt (.plain ht h (ac (ak ..) hl) (uq c3)) (dW c u) (h1 (acc++[c]) (some (tS [c])) (by rw[ae];exact ac (aW (cq ..)) hl) (dw h))
theorem QL.all(ht:t.length<=lim)(u:Tx):QL n t r g b u:=by
 have p:QL n t r g b u/\∀d w,u=d::w->QL n t r g b w:=by
  induction u with
  |nil=>exact ⟨λacc o hl h=>.stop (QT.all ht h) ⟨⟨o,acc,rfl⟩,cu _,nofun⟩,nofun⟩
  |cons c u ih=>exact ⟨.cons ht ih.1 ih.2,λd w e=>by cases e;exact ih.1⟩
 exact p.1
noncomputable def VI(t:Tx)(b:Int)(r:O)(g:Store)(res:Res V):QR->Prop
 | .ok val rest=>∃g',res= .ok (tS val) (r::sc t rest::(g++g'))
 | .zm _=>res= .exc b
 | .vy w=>res= .exc (dV t w)
theorem aaj(ht:t.length<=lim)(h:34::x<:+t):VI t (dV t (34::x)) r g (cl (n+2) 301 [.obj 1] (r::sc t (34::x)::g)) (tc x):=by
 obtain ⟨y,l,e⟩:=QL.all (n:=n) (r:=r) (g:=g) (b:=dV t (34::x)) ht x [] none (by rw[dR,bA];exact ac (dw h).length_le ht) (dw h)
 cases hq:tc x with
 |ok val rest=>
  simp only [hq] at e;obtain ⟨⟨o,rfl⟩,h2,h3⟩:=e;have j:=joL (σ:=qS t rest r g ([]++val)) AC (by rw[Cu];exact h3)
  rw[Cu] at j;exact ⟨[.list (yk val)],wc QD [.m 5 (eO t 34 x),.S 1 l.eq,.v 2 (gG n r (g++[.list (yk ([]++val))]) ht (h2.trans (dw h))),.m 3 (eO t 34 rest),.V 2 j]⟩
 |zm w=>
  rw[hq] at e;obtain ⟨⟨o,acc,rfl⟩,h2,h3⟩:=e;exact wc QD [.m 5 (eO t 34 x),.S 1 l.eq,.v 2 (gG n r (g++[.list (yk acc)]) ht (h2.trans (dw h))),.B 1 (congrArg not ((beq_eq_false_iff_ne.mpr h3)))]
 |vy w=>
  rw[hq] at e;obtain ⟨⟨ρ,rfl⟩, -⟩:=e;exact wc QD [.m 5 (eO t 34 x),.S 1 l.eq]
end
noncomputable abbrev dg:Tx:=tx "0123456789"
noncomputable abbrev lets:Tx:=tx "abcdefghijklmnopqrstuvwxyzABCDEFGHIJKLMNOPQRSTUVWXYZ_"
noncomputable abbrev Hp:Tx:=tx "abcdefghijklmnopqrstuvwxyzABCDEFGHIJKLMNOPQRSTUVWXYZ_0123456789"
noncomputable abbrev L7:Tx:=tx "()[]{},;:"
noncomputable abbrev L8:Tx:=tx "end"
noncomputable abbrev aak:Tx:=tx "text"
noncomputable abbrev QJ:Tx:=tx "number"
noncomputable abbrev QK:Tx:=tx "word"
noncomputable abbrev VJ:Tx:=tx "sign"
inductive Tv where
 |i (n:Int)|w (x:Tx)|q (x:Tx)|s (x:Tx)|e
noncomputable def Tv.isQ:Tv->Bool
 | .q _=>true
 |_=>false
noncomputable def Tv.a:Tv->Tx
 | .i _=>QJ
 | .w _=>QK
 | .q _=>aak
 | .s _=>VJ
 | .e=>L8
noncomputable def Tv.D:Tv->D
 | .i n=>.int n
 | .w x=>.str x
 | .q x=>.str x
 | .s x=>.str x
 | .e=>.str []
inductive TR where
 |bad (k:Int)|tok (d:Tv) (rest:Tx)|no
noncomputable abbrev ds(w:Tx):Tx:=w.takeWhile (iO dg)
noncomputable def Cw(neg:Bool)(w:Tx)(b:Int):TR:=if ds w=[] then .bad b else if (ds w).length<=640 then
 (fS (S (ds w))).elim .no λi=>.tok (.i (cond neg (-i) i)) (w.dropWhile (iO dg)) else .no
noncomputable def NP(t:Tx)(r:O)(g:Store)(res:Res V):TR->Prop
 | .bad k=>res= .exc k
 | .tok d rest=>d.a=QJ/\res= .ok (.d d.D) (r::sc t rest::g)
 | .no=>True
noncomputable def VK{l:Tx}{i:Int}(h:l.length<=640)(e:fS (S l)=some i):Fa (M V):=fq (l:=bInt [tS l]) (r:=M.ret (tI i)) ((if_pos h).trans (by rw[e];rfl))
noncomputable abbrev sg(neg:Bool)(w:Tx):Tx:=cond neg (45::w) w
section
theorem aal(ht:t.length<=lim)(h:sg neg w<:+t)(hn:((sg neg w).take 1==[45])=neg):NP t r g (cl (n+2) 308 [.obj 1] (r::sc t (sg neg w)::g)) (Cw neg w (dV t (sg neg w))):=by
 unfold Cw
 by_cases e0:ds w=[]
 ·rw[if_pos e0];show _=Res.exc _;cases neg with
  |false=>exact wc LW [.v 3 (gG n r g ht h),.B 1 hn,.v 6 (Ct n r g dg ht h),.B 1 (beq_iff_eq.mpr e0)]
  |true=>exact wc LW [.v 3 (gG n r g ht h),.m 7 (eO t 45 w),.v 3 (Ct n r g dg ht (dw h)),.B 1 (beq_iff_eq.mpr e0)]
 rw[if_neg e0]
 by_cases e1:(ds w).length<=640
 ·rw[if_pos e1];cases e2:fS (S (ds w)) with
  |none=>trivial
  |some i=>
   have e5:=ac e1 (show 640<=lim from aa rfl)
   refine ⟨rfl,?_⟩;show _=Res.ok _ _;cases neg with
   |false=>exact wc LW [.v 3 (gG n r g ht h),.B 1 hn,.v 6 (Ct n r g dg ht h),.B 1 (beq_eq_false_iff_ne.mpr e0),.m 0 (b8 e5),.B 1 (decide_eq_false (eK.mpr (c_.mpr (ac e1 (by decide)))):decide (((ds w).length:Int)>1000)=false),.m 2 (VK e1 e2)]
   |true=>exact wc LW [.v 3 (gG n r g ht h),.m 7 (eO t 45 w),.v 3 (Ct n r g dg ht (dw h)),.B 1 (beq_eq_false_iff_ne.mpr e0),.m 0 (b8 e5),.B 1 (decide_eq_false (eK.mpr (c_.mpr (ac e1 (by decide)))):decide (((ds w).length:Int)>1000)=false),.m 2 (VK e1 e2)]
 ·rw[if_neg e1];trivial
noncomputable def QR.tr(t:Tx)(b:Int):QR->TR
 | .ok a r=>.tok (.q a) r
 | .zm _=>.bad b
 | .vy w=>.bad (dV t w)
inductive Tok(t:Tx):Tx->TR->Prop
 |fin:Tok t [] (.tok .e [])
 |tc {x:Tx}:Tok t (34::x) ((tc x).tr t (dV t (34::x)))
 |num {neg:Bool} {w:Tx}:((sg neg w).take 1==[45])=neg->(neg=false->∃c x,w=c::x/\([c]==[34])=false/\iO dg c=true)->Tok t (sg neg w) (Cw neg w (dV t (sg neg w)))
 |XW {c:Nat} {x:Tx}:([c]==[34])=false->([c]==[45])=false->iO dg c=false->iO lets c=true->Tok t (c::x) (.tok (.w ((c::x).takeWhile (iO Hp))) ((c::x).dropWhile (iO Hp)))
 |tf {x:Tx}:Tok t (46::46::x) (.tok (.s [46,46]) x)
 |sgn {c:Nat} {x:Tx}:([c]==[34])=false->([c]==[45])=false->iO dg c=false->iO lets c=false->((c::x).take 2==[46,46])=false->iO L7 c=true->Tok t (c::x) (.tok (.s [c]) x)
 |bad {c:Nat} {x:Tx}:([c]==[34])=false->([c]==[45])=false->iO dg c=false->iO lets c=false->((c::x).take 2==[46,46])=false->iO L7 c=false->Tok t (c::x) (.bad (dV t (c::x)))
noncomputable def Cy(t:Tx)(b:Int)(r:O)(g:Store)(res:Res V):TR->Prop
 | .bad k=>res= .exc k
 | .tok d rest=>∃g',res= .ok (.d (.tup [.str d.a,d.D,.int b])) (r::sc t rest::(g++g'))/\(d.isQ=false->g'=[])
 | .no=>True
theorem Fy(h:v<:+t):cut t (some (dV t v)) (some (dV t v+2))=v.take 2:=by
 refine h.elim λq Io=>?_;subst Io
 rw[j'];refine (AB (j:=q.length+2)).trans ?_;rw[eR,lS]
noncomputable def Fz(t:Tx)(c d:Nat)(x:Tx):Fa (M V):=fq (l:=vAdd (tI (dV t (c::d::x))) (tI 2)) (r:=M.ret (tI (dV t x))) (congrArg (λi=>M.ret (tI i)) ((yH (dV t (c::d::x)) 1 1).symm.trans (by rw[nC,nC])))
theorem Cy.one(h:res= .ok (.d (.tup [.str d.a,d.D,.int b])) (r::sc t rest::g)):Cy t b r g res (.tok d rest):=⟨[],by rw[au];exact h,λU=>rfl⟩
theorem Cy.exc(h:res= .exc k):Cy t b r g res (.bad k):=h
theorem L9(ht:t.length<=lim)(hu:u<:+t)(s:ie u v)(k:Tok t v q):Cy t (dV t v) r g (cl (n+3) 315 [.obj 1] (r::sc t u::g)) q:=by
 have h:=s.w_.trans hu;cases k with
 |fin=>exact .one (wc vw [.v 2 (vx n r g ht hu s),.v 3 (gG (n+1) r g ht h)])
 |@tc x=>
  have p:=aaj (n:=n) (r:=r) (g:=g) ht h;cases hq:tc x<;>rw [hq] at p
  ·refine p.elim λg' p=>?_
   exact ⟨g',wc vw [.v 2 (vx n r g ht hu s),.v 3 (gG (n+1) r g ht h),.V 8 p],nofun⟩
  ·exact .exc (wc vw [.v 2 (vx n r g ht hu s),.v 3 (gG (n+1) r g ht h),.V 8 p])
  ·exact .exc (wc vw [.v 2 (vx n r g ht hu s),.v 3 (gG (n+1) r g ht h),.V 8 p])
 |@num neg w e1 e2=>
  have p:=aal (n:=n) (r:=r) (g:=g) ht h e1
  generalize Cw neg w (dV t (sg neg w))=z at p
  cases z with
  |no=>trivial
  |bad k=>cases neg with
   |true=>exact .exc (wc vw [.v 2 (vx n r g ht hu s),.v 3 (gG (n+1) r g ht h),.V 10 p])
   |false=>
    obtain ⟨c,x,rfl,q1,q4⟩:=e2 rfl;exact .exc (wc vw [.v 2 (vx n r g ht hu s),.v 3 (gG (n+1) r g ht h),.B 5 q1,.B 1 e1,.B 1 q4,.V 2 p])
  |tok d rest=>
   obtain ⟨z,p⟩:=p;cases neg with
   |true=>exact .one (by rw[z];exact wc vw [.v 2 (vx n r g ht hu s),.v 3 (gG (n+1) r g ht h),.V 10 p])
   |false=>
    obtain ⟨c,x,rfl,q1,q4⟩:=e2 rfl;exact .one (by rw[z];exact wc vw [.v 2 (vx n r g ht hu s),.v 3 (gG (n+1) r g ht h),.B 5 q1,.B 1 e1,.B 1 q4,.V 2 p])
 |XW q1 q3 q4 q5=>exact .one (wc vw [.v 2 (vx n r g ht hu s),.v 3 (gG (n+1) r g ht h),.B 5 q1,.B 1 q3,.B 1 q4,.B 1 q5,.v 3 (Ct (n+1) r g Hp ht h)])
 |@tf x=>exact .one (wc vw [.v 2 (vx n r g ht hu s),.v 3 (gG (n+1) r g ht h),.m 13 (Fz t 46 46 x),.m 0 (b9 ht (w9 (p:=[46,46]) h)),.m 2 (Fz t 46 46 x)])
 |@sgn c x q1 q3 q4 q5 q6 q7=>exact .one (wc vw [.v 2 (vx n r g ht hu s),.v 3 (gG (n+1) r g ht h),.B 5 q1,.B 1 q3,.B 1 q4,.B 1 q5,.m 2 (b9 ht (Fy h)),.B 1 q6,.B 1 (congrArg not (q7)),.m 0 (eO t c x)])
 |bad q1 q3 q4 q5 q6 q7=>exact .exc (wc vw [.v 2 (vx n r g ht hu s),.v 3 (gG (n+1) r g ht h),.B 5 q1,.B 1 q3,.B 1 q4,.B 1 q5,.m 2 (b9 ht (Fy h)),.B 1 q6,.B 1 (congrArg not (q7))])
end
structure Tk where
 d:Tv
 p:Int
noncomputable def Tk.D(k:Tk):D:=.tup [.str k.d.a,k.d.D,.int k.p]
inductive dA where
 |fin (e:Int)|bad (x:Int)|cons (k:Tk) (S:dA)
class inductive Sm (t:Tx):Tx->dA->Prop
 |fin {u:Tx}:u<:+t->ie u []->Sm t u (.fin (dV t []))
 |bad {u v:Tx} {x:Int}:u<:+t->ie u v->Tok t v (.bad x)->Sm t u (.bad x)
 |cons {c:Nat} {u x rest:Tx} {d:Tv} {S:dA}:u<:+t->ie u (c::x)->Tok t (c::x) (.tok d rest)->Sm t rest S->Sm t u (.cons ⟨d,dV t (c::x)⟩ S)
set_option genCtorIdx true in
inductive Out(α:Type) where
 |ok (a:α) (k:Tk) (S:dA)|exc (x:Int)
noncomputable def Out.bind{α β:Type}(o:Out α)(f:α->Tk->dA->Out β):Out β:=match o with
 | .ok a k S=>f a k S
 | .exc x=>.exc x
structure Rd where
 P:V
 gs:Int
 ss:Int
noncomputable abbrev kz(k:Tk)(R:Rd):O:=.inst 2 [(6,.obj 1),(7,.d k.D),(8,.obj 2),(9,R.P),(10,tI R.gs),(11,tI R.ss)]
noncomputable def rs(t:Tx)(R:Rd)(k:Tk)(u:Tx)(g:Store):Store:=kz k R::sc t u::g
noncomputable def rX(t:Tx)(R:Rd)(g:Store)(res:Res V):Out V->Prop
 | .exc x=>res= .exc x
 | .ok v k S=>∃u g',res= .ok v (rs t R k u (g++g'))/\Sm t u S
noncomputable def ez(k:Tk):dA->Out V
 | .fin e=>.ok (.d k.D) ⟨.e,e⟩ (.fin e)
 | .bad x=>.exc x
 | .cons k' S=>.ok (.d k.D) k' S
noncomputable def j_(k:Tk)(s:Tx):Bool:=match k.d with
 | .s x=>x==s
 |_=>false
noncomputable def AD(k:Tk)(s:Tx):Bool:=match k.d with
 | .w x=>x==s
 |_=>false
noncomputable def isN(k:Tk):Bool:=match k.d with
 | .i _=>true
 |_=>false
noncomputable def eP(s:Tx)(k:Tk)(S:dA):Out V:=cond (j_ k s) ((ez k S).bind λU k S=>.ok (.d .none) k S) (.exc k.p)
noncomputable def pNum(k:Tk)(S:dA):Out V:=cond (isN k) ((ez k S).bind λU k' S=>.ok (.d k.d.D) k' S) (.exc k.p)
section
variable{t u v s:Tx}{S:dA}
theorem rX.exc(h:res= .exc i):rX t R g res (.exc i):=h
theorem rX.ok(h:res= .ok x (rs t R k u (g++g')))(m:Sm t u S):rX t R g res (.ok x k S):=⟨u,g',h,m⟩
theorem rX.out{C:Prop}(p:rX t R g res o)(e:o= .ok a k S)(f:∀u g',res= .ok a (rs t R k u (g++g'))->Sm t u S->C):C:=by
 subst e;exact p.elim λu z0=>z0.elim λg' z1=>z1.elim λp1 p2=>f u g' p1 p2
theorem rX.bad(p:rX t R g res o)(e:o= .exc i):res= .exc i:=by cases e;exact p
theorem vz(ht:t.length<=lim)(m:Sm t u S):rX t R g (cl (n+4) 343 [.obj 0] (rs t R k u g)) (ez k S):=by
 cases m with
 |fin hu s=>
  exact (L9 (n:=n) (r:=kz k R) (g:=g) ht hu s .fin).elim λg' z0=>z0.elim λp U=>.ok (g':=g') (wc QE [.V 4 p]) (.fin iI (.stop nofun))
 |bad hu s q=>exact .exc (wc QE [.V 4 (L9 (n:=n) (r:=kz k R) (g:=g) ht hu s q)])
 |cons hu s q m'=>
  exact (L9 (n:=n) (r:=kz k R) (g:=g) ht hu s q).elim λg' z0=>z0.elim λp U=>.ok (g':=g') (wc QE [.V 4 p]) m'
noncomputable def RY(k:Tk)(s:Tx):Fa (M Bool):=fq (l:=vEq (.d (.tup [.str k.d.a,k.d.D])) (.d (.tup [.str VJ,.str s]))) (r:=M.ret (j_ k s)) (by obtain ⟨d,p⟩:=k;cases d with
 |s x=>exact congrArg M.ret (rn (x==s))
 |_=>kernel_rfl)
noncomputable def vX(k:Tk)(s:Tx):Fa (M Bool):=fq (l:=vEq (.d (.tup [.str k.d.a,k.d.D])) (.d (.tup [.str QK,.str s]))) (r:=M.ret (AD k s)) (by obtain ⟨d,p⟩:=k;cases d with
 |w x=>exact congrArg M.ret (rn (x==s))
 |_=>kernel_rfl)
noncomputable def tkN(k:Tk):Fa Bool:=fq (l:=k.d.a==QJ) (r:=isN k) (by obtain ⟨d,p⟩:=k;cases d<;>kernel_rfl)
noncomputable def mS(n:Nat)(k:Tk)(R:Rd)(s:Tx)(g:Store):Fa (Res V):=fq (l:=cl (n+1) 350 [.obj 0,tS s] (kz k R::g)) (r:=.ok (.d (.bool (j_ k s))) (kz k R::g)) (wc Z1 [.t 3 (RY k s)])
noncomputable def QM(h:s.length<=lim):Fa (M V):=fq (l:=E7 (tS s)) (r:=M.ret (tS s)) (if_pos h)
noncomputable def jS{acc:Tx}(h:(acc++s).length<=lim):Fa (M V):=fq (l:=LQ acc (tS s)) (r:=M.ret (tS (acc++s))) (if_pos h)
theorem Cz(ht:t.length<=lim)(hs:s.length<=100)(m:Sm t u S):rX t R g (cl (n+5) 357 [.obj 0,tS s] (rs t R k u g)) (eP s k S):=by
 unfold eP;cases q:j_ k s with
 |false=>
  exact .exc (wc QF [.v 2 (mS (n+3) k R s (sc t u::g)),.B 1 q,.m 0 (QM (ac hs (aa rfl))),.m 0 (jS (acc:=[]) (ac hs (aa rfl):s.length<=lim)),.m 0 (jS (s:=tx " is wanted") (by rw[ae];exact ac (aB hs _) (aa rfl)))])
 |true=>
  have p:=vz (n:=n) (k:=k) (R:=R) (g:=g) ht m;show rX _ _ _ _ ((ez k S).bind _)
  cases h:ez k S with
  |ok v k' S'=>
   simp only [h] at p;exact p.elim λu' z0=>z0.elim λg' z1=>z1.elim λp m'=>.ok (g':=g') (wc QF [.v 2 (mS (n+3) k R s (sc t u::g)),.B 1 q,.V 2 p]) m'
  |exc x=>
   simp only [h] at p;exact .exc (wc QF [.v 2 (mS (n+3) k R s (sc t u::g)),.B 1 q,.V 2 p])
theorem vY:(∃x,ez k S= .exc x)\/∃k' S',ez k S= .ok (.d k.D) k' S':=by
 cases S with
 |fin e=>exact .inr ⟨_,_,rfl⟩
 |bad x=>exact .inl ⟨x,rfl⟩
 |cons k' S'=>exact .inr ⟨_,_,rfl⟩
theorem Jk(ht:t.length<=lim)(m:Sm t u S):rX t R g (cl (n+5) 364 [.obj 0] (rs t R k u g)) (pNum k S):=by
 unfold pNum;cases q:isN k with
 |false=>exact .exc (wc QH [.B 3 (congrArg not ((tkN k).h.trans q))])
 |true=>
  have p:=vz (n:=n) (k:=k) (R:=R) (g:=g) ht m;rcases vY with ⟨x,w⟩|⟨k',S',w⟩<;>rw [w] at p⊢
  ·exact .exc (wc QH [.B 3 (congrArg not ((tkN k).h.trans q)),.V 2 p])
  ·exact p.elim λu' z0=>z0.elim λg' z1=>z1.elim λp m'=>.ok (g':=g') (wc QH [.B 3 (congrArg not ((tkN k).h.trans q)),.V 2 p]) m'
end
noncomputable def kwV(x:Tx):Option D:=cond (x==tx "none") (some .none) (cond (x==tx "true") (some (.bool true)) (cond (x==tx "false") (some (.bool false)) none))
noncomputable def zo:Tv->Option D
 | .i n=>some (.int n)
 | .q x=>some (.str x)
 | .w x=>kwV x
 |_=>none
noncomputable def VL(k:Tk)(σ:Store):Option D->Res V
 |some v=>.ok (.d v) σ
 |none=>.exc k.p
theorem aap(n:Nat)(σ:Store)(k:Tk):cl (n+1) 371 [.obj 0,.d k.D] σ=VL k σ (zo k.d):=by
 obtain ⟨d,p⟩:=k;cases d with
 |w x=>
  have e:kW [.str (tx "none"),.str (tx "true"),.str (tx "false")] (.str x)=(x==tx "none"||(x==tx "true"||x==tx "false")):=by
   show (tx "none"==x||(tx "true"==x||(tx "false"==x||false)))=_
   simp only [rA,C5,C5,C5]
  show _=VL _ _ (kwV x);unfold kwV;cases h1:x==tx "none" with
  |true=>cases beq_iff_eq.mp h1;exact wc Jc []
  |false=>cases h2:x==tx "true" with
   |true=>cases beq_iff_eq.mp h2;exact wc Jc []
   |false=>cases h3:x==tx "false" with
    |true=>cases beq_iff_eq.mp h3;exact wc Jc []
    |false=>exact wc Jc [.B 12 (e.trans (by rw[h1,h2,h3]))]
 |_=>exact wc Jc []
section
variable{a b:O}{h:Store}{j:Nat}{l:List V}{x:V}
noncomputable def L_(a b:O)(e:h[j]? =some (.list l)):Fa (Res V):=fq (tyL (σ:=a::b::h) (k:=j+2) e)
noncomputable def apA(a b:O)(x:V)(e:h[j]? =some (.list l))(hl:l.length<=lim):Fa (Res V):=fq (l:=mAppend (.obj (j+2)) [x] (a::b::h)) (r:=.ok (.d .none) (a::b::h.set j (.list (l++[x])))) (apL (k:=j+2) e hl rfl)
noncomputable def aaq(a b:O)(e:h[j]? =some (.list (l++[x])))(hl:(l++[x]).length<=lim):Fa (Res V):=fq (l:=mPop (.obj (j+2)) [] (a::b::h)) (r:=.ok x (a::b::h.set j (.list l))) (by
 show (ec (a::b::h) (j+2)).elim (Res.stuck:Res V) (λl=>l.getLast?.elim .stuck λx=>if l.length<=lim then .ok x (sR (a::b::h) (j+2) l.dropLast) else .stuck)=_
 rw[show ec (a::b::h) (j+2)=some (l++[x]) by unfold ec;rw[show (a::b::h)[j+2]? =some (.list (l++[x])) from e];rfl]
 show (l++[x]).getLast?.elim (Res.stuck:Res V) (λy=>if (l++[x]).length<=lim then .ok y (sR (a::b::h) (j+2) (l++[x]).dropLast) else .stuck)=_
 rw[qe];show (if (l++[x]).length<=lim then Res.ok x _ else .stuck)=_
 rw[if_pos hl,qf];rfl)
theorem Ma{α:Type}{l:List α}{x:α}:zS (l++[x]) (-1)=some x:=by
 have e1:jZ (-1) (l++[x]).length=some l.length:=by
  show (if (decide (0<=(-1:Int)+((l++[x]).length:Int))&&decide ((-1:Int)+((l++[x]).length)<((l++[x]).length)))=true then some ((-1:Int)+((l++[x]).length)).toNat else none)=_
  rw[(by rw[ae,kG,lh,yH];exact A5 _:(-1:Int)+((l++[x]).length)=l.length),decide_eq_true (bw _),decide_eq_true (aP.mpr (by rw[ae];exact cy _)),eE];rfl
 unfold zS;rw[if_pos ⟨by decide,by decide⟩,e1]
 exact (aY (ax _)).trans (by rw[dc];rfl)
noncomputable def itA(a b:O){i:Int}(e:h[j]? =some (.list l))(e':zS l i=some x):Fa (Res V):=fq (l:=vItem (.obj (j+2)) (tI i) (a::b::h)) (r:=.ok x (a::b::h)) (by
 show sF (ec (a::b::h) (j+2)) (λl=>M.opt (zS l i)) _=_
 rw[show ec (a::b::h) (j+2)=some l by unfold ec;rw[show (a::b::h)[j+2]? =some (.list l) from e];rfl]
 exact congrArg (λo=>M.opt o _) e')
noncomputable def tg(a b:O)(e:h[j]? =some (.list (l++[x]))):Fa (Res V):=itA a b e Ma
noncomputable def rY(a b:O)(e:h[j]? =some (.list l))(hl:l.length<=lim):Fa (Res V):=fq (l:=bLen [.obj (j+2)] (a::b::h)) (r:=.ok (tI l.length) (a::b::h)) (by
 show qu _ _ _=_;unfold qu ec;rw[show (a::b::h)[j+2]? =some (.list l) from e]
 exact congrFun (if_pos hl) _)
noncomputable def aar(a b:O){ds:List D}(e:h[j]? =some (.list (ds.map .d)))(hl:ds.length<=lim):Fa (Res V):=fq (l:=bLen [.obj (j+2)] (a::b::h)) (r:=.ok (tI ds.length) (a::b::h)) ((rY a b e (by rw[af];exact hl)).h.trans (congrArg (λn:Nat=>Res.ok (tI n) (a::b::h)) (af V.d)))
noncomputable def VM(a b:O){ds:List D}(e:h[j]? =some (.list (ds.map .d)))(hl:ds.length<=lim):Fa (Res V):=fq (l:=bTuple [.obj (j+2)] (a::b::h)) (r:=.ok (.d (.tup ds)) (a::b::h)) (by
 show sF (ofList (a::b::h) (j+2)) _ _=_;rw[show ofList (a::b::h) (j+2)=some ds by unfold ofList;rw[show (a::b::h)[j+2]? =some (.list (ds.map .d)) from e];exact (te id ds).trans (congrArg some (li ds))]
 exact congrFun (if_pos hl) _)
end
noncomputable abbrev Frame:=List D×Tx
noncomputable abbrev Fr:=Nat×Frame
noncomputable abbrev N1(p:Fr):V:=.tup [.obj (p.1+2),tS p.2.2]
noncomputable abbrev G1(ps:List Fr):List V:=(ps.map N1).reverse
noncomputable abbrev cx(l:List D):O:=.list (l.map .d)
structure th(G h:Store)(ps:List Fr):Prop where
 pre:G<+:h
 top:h[G.length]? =some (.list (G1 ps))
 has:∀p∈ps,G.length<p.1/\h[p.1]? =some (cx p.2.1)
 nd:(ps.map (·.1)).Nodup
section
variable{G h g:Store}{p:Fr}{ps:List Fr}{f:Frame}{i j:Nat}{o o':O}
theorem fK(e:h[i]? =some o):(h++g)[i]? =some o:=(dG (aL.mp e).1).trans e
theorem AE(e:G<+:h)(hj:G.length<=j):G<+:h.set j o:=by
 obtain ⟨g,rfl⟩:=e;exact ⟨g.set (j - G.length) o,(jE _ _ hj).symm⟩
theorem th.new:th G (G++[.list []]) []:=⟨f7 _ _,(aY (ax _)).trans (by rw[dc];rfl),nofun,d4⟩
theorem th.mono(s:th G h ps):th G (h++g) ps:=⟨s.pre.trans (f7 _ _),fK s.top,λp hp=>⟨(s.has p hp).1,fK (s.has p hp).2⟩,s.nd⟩
theorem th.lt(s:th G h ps):G.length<h.length:=(aL.mp s.top).1
theorem th.st(s:th G h ps){qs:List Fr}(hq:∀p∈qs,G.length<p.1/\h[p.1]? =some (cx p.2.1))(nd:(qs.map (·.1)).Nodup):th G (h.set G.length (.list (G1 qs))) qs:=
 ⟨AE s.pre (ax _),dD s.lt,λp hp=>⟨(hq p hp).1,(cn (bT (hq p hp).1)).trans (hq p hp).2⟩,nd⟩
theorem th.pop(s:th G h (p::ps)):th G (h.set G.length (.list (G1 ps))) ps:=s.st (λq hq=>s.has q (.tail _ hq)) (bQ.mp s.nd).2
theorem th.push(s:th G h ps):th G ((h++[cx f.1]).set G.length (.list (G1 ps++[N1 (h.length,f)]))) ((h.length,f)::ps):=by
 rw[show G1 ps++[N1 (h.length,f)]=G1 ((h.length,f)::ps) from d6.symm]
 refine s.mono.st (λq hq=>?_) (bQ.mpr ⟨λhm=>?_,s.nd⟩)
 ·rcases aN.mp hq with rfl|hq
  ·exact ⟨s.lt,(aY (ax _)).trans (by rw[dc];rfl)⟩
  ·exact ⟨(s.has q hq).1,fK (s.has q hq).2⟩
 ·obtain ⟨q,hq,e⟩:=br.mp hm;exact absurd (aL.mp (s.has q hq).2).1 (by rw[show q.1=h.length from e];exact iq _)
theorem th.put(s:th G h ((j,f)::ps)){ds:List D}:th G (h.set j (cx ds)) ((j,(ds,f.2))::ps):=by
 have hj:=s.has _ (.head _);refine ⟨AE s.pre (cf hj.1),(cn (fy hj.1)).trans s.top,λq hq=>?_,s.nd⟩
 rcases aN.mp hq with rfl|hq
 ·exact ⟨hj.1,dD (aL.mp hj.2).1⟩
 ·exact ⟨(s.has q (.tail _ hq)).1,(cn λe=>(bQ.mp s.nd).1 (show j∈_ by rw[show j=q.1 from e];exact kN hq)).trans (s.has q (.tail _ hq)).2⟩
theorem th.last(s:th G h (p::ps)):h[G.length]? =some (.list (G1 ps++[N1 p])):=by rw[s.top,<-d6];rfl
end
noncomputable abbrev Ph:=Option D
noncomputable def phV(p:Ph):D:=p.getD .none
noncomputable def RZ(p:Ph):D:=.tup [.bool p.isSome,phV p]
noncomputable def gW(f:Frame)(fs:List Frame)(k:Tk)(S:dA):Out (Ph×List Frame):=
 cond (j_ k [44]) ((ez k S).bind λU k S=>.ok (none,f::fs) k S) ((eP f.2 k S).bind λU k S=>.ok (some (.tup f.1),fs) k S)
noncomputable def CA(f:Frame)(fs:List Frame)(k:Tk)(S:dA):Out (Ph×List Frame):=cond (j_ k f.2) (gW f fs k S) (.ok (none,f::fs) k S)
noncomputable def isWord:Tv->Bool
 | .w _=>true
 |_=>false
noncomputable def oz(fs:List Frame)(k:Tk)(S:dA):Out (Ph×List Frame):=(ez k S).bind λU k1 S1=>
 cond (isWord k.d&&j_ k1 [40]) ((ez k1 S1).bind λU k2 S2=>CA ([k.d.D],[41]) fs k2 S2)<|
 cond (j_ k [91]) (CA ([],[93]) fs k1 S1) ((zo k.d).elim (.exc k.p) λv=>.ok (some v,fs) k1 S1)
noncomputable def pW(t:Tx)(R:Rd)(G:Store)(res:Res V):Out (Ph×List Frame)->Prop
 | .exc x=>res= .exc x
 | .ok a k S=>∃u h ps,res= .ok (.d (RZ a.1)) (rs t R k u h)/\Sm t u S/\th G h ps/\ps.map (·.2)=a.2
section
variable{t u:Tx}{R:Rd}{G h:Store}{k:Tk}{S:dA}{n:Nat}{f:Frame}{p:Fr}{ps:List Fr}{res:Res V}{ph:Ph}{fs:List Frame}
theorem pW.exc{x:Int}(h:res= .exc x):pW t R G res (.exc x):=h
theorem pW.ok(e:res= .ok (.d (RZ ph)) (rs t R k u h))(m:Sm t u S)(s:th G h ps):pW t R G res (.ok (ph,ps.map (·.2)) k S):=⟨u,h,ps,e,m,s,rfl⟩
set_option tactic.hygienic true in
theorem QN(ht:t.length<=lim)(m:Sm t u S)(s:th G h (p::ps))(h1:ps.length<lim)(h2:p.2.1.length<=lim)(h3:p.2.2.length<=100):
  pW t R G (cl (n+6) 385 [.obj 0,.obj (G.length+2)] (rs t R k u h)) (gW p.2 (ps.map (·.2)) k S):=by
 unfold gW;cases q:j_ k [44] with
 |true=>
  have e:=vz (n:=n+1) (k:=k) (R:=R) (g:=h) ht m;rcases vY with ⟨x,w⟩|⟨k',S',w⟩<;>rw [w] at e⊢
  ·exact .exc (wc LX [.v 2 (mS (n+4) k R [44] (sc t u::h)),.B 1 q,.V 2 e])
  ·obtain ⟨u',g',e,m'⟩:=e;exact .ok (ps:=p::ps) (wc LX [.v 2 (mS (n+4) k R [44] (sc t u::h)),.B 1 q,.V 2 e]) m' (s.mono (g:=g'))
 |false=>
  have e:=Cz (n:=n) (k:=k) (R:=R) (g:=h) ht h3 m;show pW _ _ _ _ ((eP _ _ _).bind _)
  cases w:eP p.2.2 k S<;>rw [w] at e
  ·rename_i v k' S';obtain ⟨u',g',e,m'⟩:=e;have s':=s.mono (g:=g');exact .ok (wc LX [.v 2 (mS (n+4) k R [44] (sc t u::h)),.B 1 q,.v 1 (tg (kz k R) (sc t u) s.last),.V 2 e,.v 0 (L_ (kz k' R) (sc t u') s'.top),.v 0 (aaq (kz k' R) (sc t u') s'.last (by rw[ae,cj,af];exact h1)),.v 0 (VM (kz k' R) (sc t u') ((cn (bT (s.has p (.head _)).1)).trans (s'.has p (.head _)).2:((h++g').set G.length (.list (G1 ps)))[p.1]? =some (cx p.2.1)) h2)]) m' s'.pop
  ·exact .exc (wc LX [.v 2 (mS (n+4) k R [44] (sc t u::h)),.B 1 q,.v 1 (tg (kz k R) (sc t u) s.last),.V 2 e])
theorem pW.map{o:Out (Ph×List Frame)}{QO:Res V}(e:pW t R G res o)(hx:∀x,res= .exc x->QO= .exc x)(hk:∀ph k u h,res= .ok (.d (RZ ph)) (rs t R k u h)->QO=res):pW t R G QO o:=by
 cases o with
 |exc x=>exact hx x e
 |ok a k S=>
  exact e.elim λu z0=>z0.elim λh z1=>z1.elim λps z2=>z2.elim λe m=>⟨u,h,ps,(hk _ _ _ _ e).trans e,m⟩
theorem VN{o:Option V}(ht:t.length<=lim)(m:Sm t u S)(s:th G h (p::ps))(h1:ps.length<lim)(h2:p.2.1.length<=lim)(h3:p.2.2.length<=100):
  pW t R G (fin ((zz Qx).m (aQ TT (n+6)) [some (.obj 0),some (.obj (G.length+2)),o] (rs t R k u h))) (CA p.2 (ps.map (·.2)) k S):=by
 unfold CA;cases q:j_ k p.2.2 with
 |true=>
  refine (QN (n:=n) ht m s h1 h2 h3).map (λx e=>?_) λph k' u' h' e=>?_
  ·exact wf [.v 3 (tg (kz k R) (sc t u) s.last),.v 1 (mS (n+5) k R p.2.2 (sc t u::h)),.B 1 q,.V 2 e]
  ·simp only [e];exact wf [.v 3 (tg (kz k R) (sc t u) s.last),.v 1 (mS (n+5) k R p.2.2 (sc t u::h)),.B 1 q,.V 2 e]
 |false=>
  exact .ok (wf [.v 3 (tg (kz k R) (sc t u) s.last),.v 1 (mS (n+5) k R p.2.2 (sc t u::h)),.B 1 q]) m s
noncomputable def vA(k:Tk):Fa Bool:=fq (l:=k.d.a==QK) (r:=isWord k.d) (by obtain ⟨d,p⟩:=k;cases d<;>kernel_rfl)
theorem aas:1<=lim:=aa rfl
theorem D8:0<=lim:=aZ _
theorem VO(ht:t.length<=lim)(m:Sm t u S)(s:th G h ps)(h1:ps.length<lim):pW t R G (cl (n+7) 378 [.obj 0,.obj (G.length+2)] (rs t R k u h)) (oz (ps.map (·.2)) k S):=by
 unfold oz;have e:=vz (n:=n+2) (k:=k) (R:=R) (g:=h) ht m;have hl:(G1 ps).length<=lim:=by rw[cj,af];exact cf h1
 have word:∀k1 u1 g1 S1,Sm t u1 S1->(∀x,cl (n+6) 371 [.obj 0,.d k.D] (rs t R k1 u1 (h++g1))= .exc x->cl (n+7) 378 [.obj 0,.obj (G.length+2)] (rs t R k u h)= .exc x)->(∀v,cl (n+6) 371 [.obj 0,.d k.D] (rs t R k1 u1 (h++g1))= .ok (.d v) (rs t R k1 u1 (h++g1))->cl (n+7) 378 [.obj 0,.obj (G.length+2)] (rs t R k u h)= .ok (.d (RZ (some v))) (rs t R k1 u1 (h++g1)))->pW t R G (cl (n+7) 378 [.obj 0,.obj (G.length+2)] (rs t R k u h)) ((zo k.d).elim (.exc k.p) λv=>.ok (some v,ps.map (·.2)) k1 S1):=λk1 u1 g1 S1 m1 wx w=>by
  have e:=aap (n+5) (rs t R k1 u1 (h++g1)) k;cases hw:zo k.d<;>rw [hw] at e
  ·exact .exc (wx _ e)
  ·exact .ok (w _ e) m1 s.mono
 rcases vY with ⟨x,w⟩|⟨k1,S1,w⟩<;>rw [w] at e⊢
 ·exact .exc (wc Cs [.V 2 e])
 obtain ⟨u1,g1,e,m1⟩:=e;show pW _ _ _ _ (cond (isWord k.d&&j_ k1 [40]) _ _);cases hw:isWord k.d with
 |true=>cases q2:j_ k1 [40] with
  |true=>
   have e2:=vz (n:=n+2) (k:=k1) (R:=R) (g:=h++g1) ht m1;rcases vY with ⟨x,w⟩|⟨k2,S2,w⟩<;>rw [w] at e2⊢
   ·exact .exc (wc Cs [.V 2 e,.B 2 ((vA k).h.trans hw),.v 2 (mS (n+5) k1 R [40] (sc t u1::(h++g1))),.B 1 q2,.V 2 e2])
   ·refine e2.elim λu2 z0=>z0.elim λg2 z1=>z1.elim λe2 m2=>?_
    have s2:=(s.mono (g:=g1)).mono (g:=g2);simp only [(wh (σ:=rs t R k u h) (vs:=[.obj 0,.obj (G.length+2)]) (m:=n+6) (ρ':=[some (.obj 0),some (.obj (G.length+2)),some (.d k.D)]) (σ':=rs t R k2 u2 ((h++g1++g2++[cx [k.d.D]]).set G.length (.list (G1 ps++[N1 ((h++g1++g2).length,([k.d.D],[41]))])))) Cs (ws [.V 2 e,.B 2 ((vA k).h.trans hw),.v 2 (mS (n+5) k1 R [40] (sc t u1::(h++g1))),.B 1 q2,.V 2 e2,.v 0 (L_ (kz k2 R) (sc t u2) s2.top),.v 3 (apA (kz k2 R) (sc t u2) (N1 ((h++g1++g2).length,([k.d.D],[41]))) (fK (g:=[cx [k.d.D]]) s2.top) hl)]))]
    exact VN (p:=((h++g1++g2).length,([k.d.D],[41]))) ht m2 (s2.push (f:=([k.d.D],[41]))) h1 aas (show 1<=100 by decide)
  |false=>
   have q9:j_ k [91]=false:=by obtain ⟨d,p⟩:=k;cases d<;>first|rfl|cases hw
   exact (q9).symm▸word k1 u1 g1 S1 m1 (λx hr=>wc Cs [.V 2 e,.B 2 ((vA k).h.trans hw),.v 2 (mS (n+5) k1 R [40] (sc t u1::(h++g1))),.B 1 q2,.t 2 (RY k [91]),.B 0 q9,.V 2 hr]) λv hr=>wc Cs [.V 2 e,.B 2 ((vA k).h.trans hw),.v 2 (mS (n+5) k1 R [40] (sc t u1::(h++g1))),.B 1 q2,.t 2 (RY k [91]),.B 0 q9,.V 2 hr]
 |false=>cases q9:j_ k [91] with
  |true=>
   simp only [(show cl (n+7) 378 [.obj 0,.obj (G.length+2)] (rs t R k u h)=_ from wh (m:=n+6) (ρ':=[some (.obj 0),some (.obj (G.length+2)),some (.d k.D)]) (σ':=rs t R k1 u1 ((h++g1++[cx []]).set G.length (.list (G1 ps++[N1 ((h++g1).length,([],[93]))])))) Cs (ws [.V 2 e,.B 2 ((vA k).h.trans hw),.t 2 (RY k [91]),.B 0 q9,.v 0 (L_ (kz k1 R) (sc t u1) (s.mono (g:=g1)).top),.v 2 (apA (kz k1 R) (sc t u1) (N1 ((h++g1).length,([],[93]))) (fK (g:=[cx []]) (s.mono (g:=g1)).top) hl)]))]
   exact VN (p:=((h++g1).length,([],[93]))) ht m1 ((s.mono).push (f:=([],[93]))) h1 D8 (show 1<=100 by decide)
  |false=>exact word k1 u1 g1 S1 m1 (λx hr=>wc Cs [.V 2 e,.B 2 ((vA k).h.trans hw),.t 2 (RY k [91]),.B 0 q9,.V 2 hr]) λv hr=>wc Cs [.V 2 e,.B 2 ((vA k).h.trans hw),.t 2 (RY k [91]),.B 0 q9,.V 2 hr]
end
class inductive PD:Ph->List Frame->Tk->dA->Out V->Prop
 |op {fs FA:List Frame} {k k':Tk} {S S':dA} {ph:Ph} {o:Out V}:fs.length<lim->oz fs k S= .ok (ph,FA) k' S'->PD ph FA k' S' o->PD none fs k S o
 |opx {fs:List Frame} {k:Tk} {S:dA} {x:Int}:fs.length<lim->oz fs k S= .exc x->PD none fs k S (.exc x)
 |ret {v:D} {k:Tk} {S:dA}:PD (some v) [] k S (.ok (.d v) k S)
 |cl {v:D} {f:Frame} {fs FA:List Frame} {k k':Tk} {S S':dA} {ph:Ph} {o:Out V}:fs.length<lim->f.1.length<lim->f.2.length<=100->gW (f.1++[v],f.2) fs k S= .ok (ph,FA) k' S'->PD ph FA k' S' o->PD (some v) (f::fs) k S o
 |clx {v:D} {f:Frame} {fs:List Frame} {k:Tk} {S:dA} {x:Int}:fs.length<lim->f.1.length<lim->f.2.length<=100->gW (f.1++[v],f.2) fs k S= .exc x->PD (some v) (f::fs) k S (.exc x)
noncomputable def Kt(a b:O){h:Store}{j:Nat}{ds:List D}(v:D)(e:h[j]? =some (cx ds))(hl:ds.length<=lim):Fa (Res V):=fq (l:=mAppend (.obj (j+2)) [.d v] (a::b::h)) (r:=.ok (.d .none) (a::b::h.set j (cx (ds++[v])))) (apL (k:=j+2) e (by rw[af];exact hl) (congrArg (λl=>a::b::h.set j (.list l)) (aH (f:=V.d) (l₁:=ds) (l₂:=[v])).symm))
noncomputable abbrev Jl(b:Nat)(x y:Option V):Env:=[some (.obj 0),some (.obj (b+2)),x,y]
noncomputable abbrev QP(b:Nat)(p:Ph):Env:=Jl b (some (.d (.bool p.isSome))) (some (.d (phV p)))
section
variable(n:Nat)(t:Tx)(R:Rd)(G:Store)
noncomputable def N2(r:RS):Out V->Prop
 | .exc x=>∃ρ,r= .exc x ρ
 | .ok v k S=>∃ρ u h,r= .ok (.ret v) ρ (rs t R k u h)/\Sm t u S/\G<+:h
noncomputable def AF(o:Out V)(σ:Store):Prop:=∀x y,∃r,gw T392a.m L392a.m (aQ TT (n+7)) (Jl G.length x y) σ r/\N2 t R G r o
noncomputable def pX(o:Out V)(ph:Ph)(σ:Store):Prop:=∃r,gw T392.m L392.m (aQ TT (n+7)) (QP G.length ph) σ r/\(N2 t R G r o\/∃x y τ,r= .ok .next (Jl G.length x y) τ/\AF n t R G o τ)
end
section
variable{n:Nat}{t u:Tx}{R:Rd}{G h:Store}{k:Tk}{S:dA}{ps:List Fr}{ph:Ph}{fs:List Frame}{o:Out V}{σ σ₁:Store}
theorem pW.out{a:Ph×List Frame}{o:Out (Ph×List Frame)}{res:Res V}{C:Prop}(p:pW t R G res o)(e:o= .ok a k S)(f:∀u h ps,res= .ok (.d (RZ a.1)) (rs t R k u h)->Sm t u S->th G h ps->ps.map (·.2)=a.2->C):C:=by
 subst e;exact p.elim λu z0=>z0.elim λh z1=>z1.elim λps z2=>z2.elim λp1 z3=>z3.elim λp2 z4=>z4.elim λp3 p4=>f u h ps p1 p2 p3 p4
theorem pW.bad{x:Int}{o:Out (Ph×List Frame)}{res:Res V}(p:pW t R G res o)(e:o= .exc x):res= .exc x:=by cases e;exact p
noncomputable def Jm(n:Nat)(t:Tx)(R:Rd)(G:Store)(o:Out V)(ph:Ph)(σ:Store):Prop:=(ph=none->AF n t R G o σ)/\pX n t R G o ph σ
theorem Jm.none(h:AF n t R G o σ):Jm n t R G o none σ:=⟨λU=>h,_,.stop (we []),.inr ⟨_,_,_,rfl,h⟩⟩
theorem Jm.some{v:D}(h:pX n t R G o (some v) σ):Jm n t R G o (some v) σ:=⟨nofun,h⟩
noncomputable abbrev iT(n:Nat)(G:Store)(ph:Ph)(σ:Store):Prop:=T392.m (aQ TT (n+7)) (QP G.length ph) σ= .ok true σ
theorem pX.turn{VP:Ph}(tt:iT n G ph σ)(hb:L392.m (aQ TT (n+7)) (QP G.length ph) σ= .ok .next (QP G.length VP) σ₁)(d:pX n t R G o VP σ₁):pX n t R G o ph σ:=d.elim λr z0=>z0.elim λl d=>⟨r,.turn tt hb l,d⟩
theorem pX.exc{x:Int}{ρ:Env}(tt:iT n G ph σ)(hb:L392.m (aQ TT (n+7)) (QP G.length ph) σ= .exc x ρ):pX n t R G (.exc x) ph σ:=⟨_,.exc tt hb,.inl ⟨_,rfl⟩⟩
theorem sl{q:Fr}(h1:(ps.map (·.2)).length<lim):(G1 (q::ps)).length<=lim:=by rw[cj,af,bP,<-af];exact h1
theorem l0{q:Fr}:(((G1 (q::ps)).length:Int)==0)=false:=beq_eq_false_iff_ne.mpr (Int.ofNat_ne_zero.mpr (by rw[cj];exact uF _))
theorem Jn(e:cl (n+7) 378 [.obj 0,.obj (G.length+2)] (rs t R k u h)= .ok (.d (RZ ph)) σ)(d:pX n t R G o ph σ):AF n t R G o (rs t R k u h):=λx y=>by
 refine cps λP9 k9=>?_
 obtain ⟨r,l,d⟩:=d;have tt:T392a.m (aQ TT (n+7)) (Jl G.length x y) (rs t R k u h)= .ok true (rs t R k u h):=we [];rcases d with d|⟨x',y',τ,rfl,d⟩
 ·cases o with
  |exc z=>
   obtain ⟨ρ,rfl⟩:=d;exact k9 ⟨_,.exc tt (ws [.V 2 e,.S 0 l.eq]),ρ,rfl⟩
  |ok v k' S'=>
   obtain ⟨ρ,u',h',rfl,m⟩:=d;exact k9 ⟨_,.out tt (ws [.V 2 e,.S 0 l.eq]),ρ,u',h',rfl,m⟩
 ·obtain ⟨r',l',d⟩:=d x' y';exact k9 ⟨r',.turn tt (ws [.V 2 e,.S 0 l.eq]) l',d⟩
theorem aav(ht:t.length<=lim)(d:PD ph fs k S o):∀{u h ps},Sm t u S->th G h ps->ps.map (·.2)=fs->Jm n t R G o ph (rs t R k u h):=by
 induction d with
 |op h1 h2 d ih=>intro u h ps m s e;cases e;exact (VO ht m s (by rw[<-af];exact h1)).out h2 λU U U p m' s' e'=>.none (Jn p (ih m' s' e').2)
 |@opx fs k S x h1 h2=>
  intro u h ps m s e;subst e;exact .none λx' y'=>⟨_,.exc (ρ₂:=Jl G.length x' y') (σ₁:=rs t R k u h) (we []) (ws [.V 2 ((VO (n:=n) (R:=R) ht m s (by rw[<-af];exact h1)).bad h2)]),_,rfl⟩
 |@ret v k S=>
  intro u h ps m s e;obtain rfl:=List.map_eq_nil_iff.mp e;exact .some ⟨_,.out (σ₁:=rs t R k u h) (ρ₂:=QP G.length (some v)) (we []) (ws [.v 0 (rY (kz k R) (sc t u) s.top D8)]),.inl ⟨_,u,h,rfl,m,s.pre⟩⟩
 |@cl v f fs FA k k' S S' ph o h1 h2 h3 h4 d ih=>
  intro u h ps m s e;cases ps with
  |nil=>exact nomatch e
  |cons q ps=>
   obtain ⟨j,f0⟩:=q;cases e;have hq:=(s.has _ (.head _)).2;have hb:f0.1.length<=lim:=cf h2
   exact (QN (n:=n+1) (R:=R) ht m (s.put (ds:=f0.1++[v])) (by rw[<-af];exact h1) (by rw[ae];exact h2) h3).out h4 λu' h' Bg p m' s' e'=>
    .some (.turn (we []) (ws [.v 0 (rY (kz k R) (sc t u) s.top (sl h1)),.B 1 (l0 (ps:=ps) (q:=(j,f0))),.v 1 (tg (kz k R) (sc t u) s.last),.v 1 (L_ (kz k R) (sc t u) hq),.v 0 (Kt (kz k R) (sc t u) v hq hb),.V 2 p]) (ih m' s' e').2)
 |@clx v f fs k S x h1 h2 h3 h4=>
  intro u h ps m s e;cases ps with
  |nil=>exact nomatch e
  |cons q ps=>
   obtain ⟨j,f0⟩:=q;cases e;have hq:=(s.has _ (.head _)).2;have hb:f0.1.length<=lim:=cf h2
   exact .some (.exc (ρ:=QP G.length (some v)) (we []) (ws [.v 0 (rY (kz k R) (sc t u) s.top (sl h1)),.B 1 (l0 (ps:=ps) (q:=(j,f0))),.v 1 (tg (kz k R) (sc t u) s.last),.v 1 (L_ (kz k R) (sc t u) hq),.v 0 (Kt (kz k R) (sc t u) v hq hb),.V 2 ((QN (n:=n+1) (R:=R) ht m (s.put (ds:=f0.1++[v])) (by rw[<-af];exact h1) (by rw[ae];exact h2) h3).bad h4)]))
theorem Mb(ht:t.length<=lim)(m:Sm t u S)(d:PD none [] k S o):rX t R G (cl (n+8) 392 [.obj 0] (rs t R k u G)) o:=by
 refine cps λP9 k9=>?_
 have q:=(aav (n:=n) (R:=R) (G:=G) ht d m th.new rfl).1 rfl none none;clear d
 obtain ⟨r,l,d⟩:=q;cases o with
 |exc z=>
  obtain ⟨ρ,rfl⟩:=d;exact k9 (.exc (wc VC [.S 1 l.eq]))
 |ok v k' S'=>
  obtain ⟨ρ,u',h',rfl,m,g',rfl⟩:=d;exact k9 (.ok (g':=g') (wc VC [.S 1 l.eq]) m)
end
noncomputable abbrev Rg:=Int×Int
noncomputable def yl(r:Rg):D:=.tup [.int r.1,.int r.2]
noncomputable def G2(last:Option Int)(low aaw:Int):Bool:=decide (low>aaw)||last.any λl=>decide (low<=l+1)
noncomputable def VQ:Option Int->D
 |none=>.none
 |some l=>.int l
noncomputable abbrev tf:Tx:=[46,46]
inductive PS(last:Option Int)(k:Tk)(S:dA):Out V->Prop
 |x1 {x:Int}:pNum k S= .exc x->PS last k S (.exc x)
 |x2 {x i:Int} {k1:Tk} {S1:dA}:pNum k S= .ok (tI i) k1 S1->eP tf k1 S1= .exc x->PS last k S (.exc x)
 |x3 {x i:Int} {k1 k2:Tk} {S1 S2:dA} {v:V}:pNum k S= .ok (tI i) k1 S1->eP tf k1 S1= .ok v k2 S2->pNum k2 S2= .exc x->PS last k S (.exc x)
 |bad {i j:Int} {k1 k2 k3:Tk} {S1 S2 S3:dA} {v:V}:pNum k S= .ok (tI i) k1 S1->eP tf k1 S1= .ok v k2 S2->pNum k2 S2= .ok (tI j) k3 S3->G2 last i j=true->PS last k S (.exc k.p)
 |ok {i j:Int} {k1 k2 k3:Tk} {S1 S2 S3:dA} {v:V}:pNum k S= .ok (tI i) k1 S1->eP tf k1 S1= .ok v k2 S2->pNum k2 S2= .ok (tI j) k3 S3->G2 last i j=false->PS last k S (.ok (.d (yl (i,j))) k3 S3)
section
variable{t u:Tx}{R:Rd}{g G h:Store}{k:Tk}{S:dA}{n:Nat}{last:Option Int}{o:Out V}
theorem QQ:([46,46]:Tx).length<=100:=aa rfl
theorem G3(ht:t.length<=lim)(m:Sm t u S)(d:PS last k S o):rX t R g (cl (n+6) 422 [.obj 0,.d (VQ last)] (rs t R k u g)) o:=by
 have n1:=Jk (n:=n) (k:=k) (R:=R) (g:=g) ht m;have n2:=λk1 u1 g1 S1 m=>Cz (n:=n) (k:=k1) (R:=R) (u:=u1) (g:=g1) (S:=S1) (s:=tf) ht QQ m
 cases d with
 |x1 h1=>exact .exc (wc D6 [.V 4 (n1.bad h1)])
 |x2 h1 h2=>exact n1.out h1 λu1 g1 p m=>.exc (wc D6 [.V 4 p,.V 4 ((n2 _ _ (g++g1) _ m).bad h2)])
 |x3 h1 h2 h3=>exact n1.out h1 λu1 g1 p m=>(n2 _ _ (g++g1) _ m).out h2 λu2 g2 q m=>.exc (wc D6 [.V 4 p,.V 4 q,.V 2 (((λk1 u1 g1 S1 m=>Jk (n:=n) (k:=k1) (R:=R) (u:=u1) (g:=g1) (S:=S1) ht m) _ _ (g++g1++g2) _ m).bad h3)])
 |@bad i j k1 k2 k3 S1 S2 S3 v h1 h2 h3 h4=>
  refine n1.out h1 λu1 g1 p m=>(n2 _ _ (g++g1) _ m).out h2 λu2 g2 q m=>((λk1 u1 g1 S1 m=>Jk (n:=n) (k:=k1) (R:=R) (u:=u1) (g:=g1) (S:=S1) ht m) _ _ (g++g1++g2) _ m).out h3 λu3 g3 r m=>.exc ?_
  unfold G2 at h4;cases h5:decide (i>j) with
  |true=>exact wc D6 [.V 4 p,.V 4 q,.V 2 r,.B 1 h5]
  |false=>cases last with
   |none=>rw [h5] at h4;cases h4
   |some l=>rw [h5] at h4;exact wc D6 [.V 4 p,.V 4 q,.V 2 r,.B 1 h5,.B 4 (h4)]
 |@ok i j k1 k2 k3 S1 S2 S3 v h1 h2 h3 h4=>
  refine n1.out h1 λu1 g1 p m=>(n2 _ _ (g++g1) _ m).out h2 λu2 g2 q m=>((λk1 u1 g1 S1 m=>Jk (n:=n) (k:=k1) (R:=R) (u:=u1) (g:=g1) (S:=S1) ht m) _ _ (g++g1++g2) _ m).out h3 λu3 g3 r m=>.ok (g':=g1++(g2++g3)) ?_ m
  rw[<-ai,<-ai];refine (ka.mp h4).elim λh5 h6=>?_
  cases last with
  |none=>exact wc D6 [.V 4 p,.V 4 q,.V 2 r,.B 1 h5]
  |some l=>exact wc D6 [.V 4 p,.V 4 q,.V 2 r,.B 1 h5,.B 4 (h6)]
structure DL(G h:Store)(fd:List Rg):Prop where
 pre:G<+:h
 top:h[G.length]? =some (cx (fd.map yl))
theorem DL.mono{fd:List Rg}(d:DL G h fd):DL G (h++g) fd:=⟨d.pre.trans (f7 _ _),fK d.top⟩
theorem DL.put{fd:List Rg}{r:Rg}(d:DL G h fd):DL G (h.set G.length (cx (fd.map yl++[yl r]))) (fd++[r]):=⟨AE d.pre (ax _),by rw[aH];exact dD (aL.mp d.top).1⟩
theorem DL.new:DL G (G++[.list []]) []:=⟨f7 _ _,(aY (ax _)).trans (by rw[dc];rfl)⟩
class inductive PL:List Rg->Tk->dA->Out (List Rg)->Prop
 |stop {fd:List Rg} {k:Tk} {S:dA}:j_ k [125]=true->fd.length<=lim->PL fd k S (.ok fd k S)
 |xb {r:Rg} {k k':Tk} {S S':dA} {o:Out (List Rg)}:j_ k [125]=false->PS none k S (.ok (.d (yl r)) k' S')->PL [r] k' S' o->PL [] k S o
 |G4 {k:Tk} {S:dA} {x:Int}:j_ k [125]=false->PS none k S (.exc x)->PL [] k S (.exc x)
 |more {fd:List Rg} {q r:Rg} {v:V} {k oq k':Tk} {S ur S':dA} {o:Out (List Rg)}:j_ k [125]=false->(fd++[q]).length<lim->eP [44] k S= .ok v oq ur->PS (some q.2) oq ur (.ok (.d (yl r)) k' S')->PL (fd++[q]++[r]) k' S' o->PL (fd++[q]) k S o
 |QS {fd:List Rg} {q:Rg} {k:Tk} {S:dA} {x:Int}:j_ k [125]=false->(fd++[q]).length<lim->eP [44] k S= .exc x->PL (fd++[q]) k S (.exc x)
 |N3 {fd:List Rg} {q:Rg} {v:V} {k oq:Tk} {S ur:dA} {x:Int}:j_ k [125]=false->(fd++[q]).length<lim->eP [44] k S= .ok v oq ur->PS (some q.2) oq ur (.exc x)->PL (fd++[q]) k S (.exc x)
noncomputable def yu(n:Nat)(t:Tx)(R:Rd)(G:Store)(σ:Store)(o:Out (List Rg)):Prop:=∃r,gw T429.m L429.m (aQ TT (n+7)) [some (.obj 0),some (.obj (G.length+2))] σ r/\match o with
 | .exc x=>∃ρ,r= .exc x ρ
 | .ok fd k S=>∃u h,r= .ok .next [some (.obj 0),some (.obj (G.length+2))] (rs t R k u h)/\Sm t u S/\DL G h fd/\fd.length<=lim
noncomputable abbrev vC(G:Store):Env:=[some (.obj 0),some (.obj (G.length+2))]
theorem yu.turn{σ σ₁:Store}{o:Out (List Rg)}(tt:T429.m (aQ TT (n+7)) (vC G) σ= .ok true σ)(hb:L429.m (aQ TT (n+7)) (vC G) σ= .ok .next (vC G) σ₁)(l:yu n t R G σ₁ o):yu n t R G σ o:=l.elim λr z0=>z0.elim λl p=>⟨r,.turn tt hb l,p⟩
theorem yu.exc{σ:Store}{ρ:Env}{x:Int}(tt:T429.m (aQ TT (n+7)) (vC G) σ= .ok true σ)(hb:L429.m (aQ TT (n+7)) (vC G) σ= .exc x ρ):yu n t R G σ (.exc x):=⟨_,.exc tt hb,_,rfl⟩
section
variable{fd:List Rg}{q:Rg}
theorem uw(d:DL G h (fd++[q])):h[G.length]? =some (.list ((fd.map yl).map V.d++[V.d (yl q)])):=by rw[d.top,aH,cx,aH];rfl
theorem xd:decide ((((fd.map yl).map V.d++[V.d (yl q)]).length:Int)>0)=true:=decide_eq_true (aP.mpr (by rw[ae];exact bU _))
theorem len_one(h1:(fd++[q]).length<lim):((fd.map yl).map V.d++[V.d (yl q)]).length<=lim:=by rw[ae,af,af];rw[ae] at h1;exact cf h1
end
theorem QU{o:Out (List Rg)}{fd:List Rg}(ht:t.length<=lim)(d:PL fd k S o):∀{u h},Sm t u S->DL G h fd->yu n t R G (rs t R k u h) o:=by
 have lt:=λ{k:Tk} {u:Tx} {h:Store} {b:Bool} (e:j_ k [125]=b)=>show T429.m (aQ TT (n+7)) (vC G) (rs t R k u h)= .ok (!b) (rs t R k u h) from we [.v 2 (mS (n+6) k R [125] (sc t u::h)),.B 1 e]
 induction d with
 |stop q hl=>exact λ{u h} m d=>⟨_,.stop (lt q),u,h,rfl,m,d,hl⟩
 |@xb r k k' S S' o q h1 d ih=>
  exact λ{u h} m d=>(G3 (n:=n+1) (R:=R) (g:=h) ht m h1).out rfl λu' g' p m'=>
   .turn (lt q) (ws [.v 0 (rY (kz k R) (sc t u) d.top D8),.v 2 (L_ (kz k R) (sc t u) d.top),.v 2 (rY (kz k R) (sc t u) d.top D8),.V 2 p,.v 0 (Kt (kz k' R) (sc t u') (yl r) (fK (g:=g') d.top) D8)]) (ih m' (d.mono (g:=g')).put)
 |@G4 k S x q h1=>
  exact λ{u h} m d=>.exc (ρ:=vC G) (lt q) (ws [.v 0 (rY (kz k R) (sc t u) d.top D8),.v 2 (L_ (kz k R) (sc t u) d.top),.v 2 (rY (kz k R) (sc t u) d.top D8),.V 2 ((G3 (n:=n+1) (R:=R) (g:=h) ht m h1).bad rfl)])
 |@more fd q r v k oq k' S ur S' o e h1 h2 h3 d ih=>
  intro u h m d;have dt:=uw d;exact (Cz (n:=n+2) (R:=R) (g:=h) (s:=[44]) ht (show 1<=100 by decide) m).out h2 λu1 g1 p m1=>(G3 (n:=n+1) (R:=R) (g:=h++g1) ht m1 h3).out rfl λu' g' p' m'=>.turn (lt e) (ws [.v 0 (rY (kz k R) (sc t u) dt (len_one h1)),.B 1 (xd (fd:=fd) (q:=q)),.V 2 p,.v 0 (L_ (kz oq R) (sc t u1) (fK (g:=g1) dt)),.v 2 (rY (kz oq R) (sc t u1) (fK (g:=g1) dt) (len_one h1)),.B 1 (xd (fd:=fd) (q:=q)),.v 1 (tg (kz oq R) (sc t u1) (fK (g:=g1) dt)),.V 1 p',.v 0 (Kt (kz k' R) (sc t u') (yl r) (fK (g:=g') (fK (g:=g1) d.top)) (by rw[af];exact cf h1))]) (ih m' ((d.mono (g:=g1)).mono (g:=g')).put)
 |@QS fd q k S x e h1 h2=>
  intro u h m d;exact .exc (ρ:=vC G) (lt e) (ws [.v 0 (rY (kz k R) (sc t u) (uw d) (len_one h1)),.B 1 (xd (fd:=fd) (q:=q)),.V 2 ((Cz (n:=n+2) (R:=R) (g:=h) (s:=[44]) ht (show 1<=100 by decide) m).bad h2)])
 |@N3 fd q v k oq S ur x e h1 h2 h3=>
  intro u h m d;exact (Cz (n:=n+2) (R:=R) (g:=h) (s:=[44]) ht (show 1<=100 by decide) m).out h2 λu1 g1 p m1=>.exc (ρ:=vC G) (lt e) (ws [.v 0 (rY (kz k R) (sc t u) (uw d) (len_one h1)),.B 1 (xd (fd:=fd) (q:=q)),.V 2 p,.v 0 (L_ (kz oq R) (sc t u1) (fK (g:=g1) (uw d))),.v 2 (rY (kz oq R) (sc t u1) (fK (g:=g1) (uw d)) (len_one h1)),.B 1 (xd (fd:=fd) (q:=q)),.v 1 (tg (kz oq R) (sc t u1) (fK (g:=g1) (uw d))),.V 1 ((G3 (n:=n+1) (R:=R) (g:=h++g1) ht m1 h3).bad rfl)])
inductive rZ:Tk->dA->Out V->Prop
 |xb {k k':Tk} {S S':dA} {r:Rg}:j_ k [123]=false->PS none k S (.ok (.d (yl r)) k' S')->rZ k S (.ok (.d (.tup [yl r])) k' S')
 |G4 {k:Tk} {S:dA} {x:Int}:j_ k [123]=false->PS none k S (.exc x)->rZ k S (.exc x)
 |pY {k:Tk} {S:dA} {x:Int}:j_ k [123]=true->ez k S= .exc x->rZ k S (.exc x)
 |N4 {k k1:Tk} {S S1:dA} {v:V} {x:Int}:j_ k [123]=true->ez k S= .ok v k1 S1->PL [] k1 S1 (.exc x)->rZ k S (.exc x)
 |many {k k1 k2 k3:Tk} {S S1 S2 S3:dA} {v w:V} {fd:List Rg}:j_ k [123]=true->ez k S= .ok v k1 S1->PL [] k1 S1 (.ok fd k2 S2)->ez k2 S2= .ok w k3 S3->rZ k S (.ok (.d (.tup (fd.map yl))) k3 S3)
 |N5 {k k1 k2:Tk} {S S1 S2:dA} {v:V} {fd:List Rg} {x:Int}:j_ k [123]=true->ez k S= .ok v k1 S1->PL [] k1 S1 (.ok fd k2 S2)->ez k2 S2= .exc x->rZ k S (.exc x)
theorem yu.bad{σ:Store}{x:Int}(l:yu n t R G σ (.exc x)){C:Prop}(f:∀ρ,om T429.m L429.m (aQ TT (n+7)) (vC G) σ= .exc x ρ->C):C:=by
 obtain ⟨r,l,ρ,rfl⟩:=l;exact f ρ l.eq
theorem yu.out{σ:Store}{fd:List Rg}(l:yu n t R G σ (.ok fd k S)){C:Prop}(f:∀u h,om T429.m L429.m (aQ TT (n+7)) (vC G) σ= .ok .next (vC G) (rs t R k u h)->Sm t u S->G<+:h->h[G.length]? =some (cx (fd.map yl))->(fd.map yl).length<=lim->C):C:=by
 obtain ⟨r,l,u,h,rfl,m,d,hl⟩:=l;exact f u h l.eq m d.pre d.top (by rw[af];exact hl)
theorem aax(ht:t.length<=lim)(m:Sm t u S)(d:rZ k S o):rX t R G (cl (n+8) 429 [.obj 0] (rs t R k u G)) o:=by
 have tk:=vz (n:=n+3) (k:=k) (R:=R) (g:=G) ht m;cases d with
 |xb q h=>exact (G3 (n:=n+1) (R:=R) (g:=G) ht m h).out rfl λu' g' p m'=>.ok (g':=g') (wc GW [.v 2 (mS (n+6) k R [123] (sc t u::G)),.B 1 q,.V 2 p]) m'
 |G4 q h=>exact .exc (wc GW [.v 2 (mS (n+6) k R [123] (sc t u::G)),.B 1 q,.V 2 ((G3 (n:=n+1) (R:=R) (g:=G) ht m h).bad rfl)])
 |pY q h=>exact .exc (wc GW [.v 2 (mS (n+6) k R [123] (sc t u::G)),.B 1 q,.V 2 (tk.bad h)])
 |N4 q h1 h2=>exact tk.out h1 λu1 g1 p m1=>(QU (n:=n) (R:=R) (G:=G++g1) ht h2 m1 .new).bad λρ l=>.exc (wc GW [.v 2 (mS (n+6) k R [123] (sc t u::G)),.B 1 q,.V 2 p,.S 1 l])
 |@N5 k1 k2 D9 S1 S2 v fd x q h1 h2 h3=>
  exact tk.out h1 λu1 g1 p m1=>(QU (n:=n) (R:=R) (G:=G++g1) ht h2 m1 .new).out λu2 h l m2 hp hd hl=>
   .exc (wc GW [.v 2 (mS (n+6) k R [123] (sc t u::G)),.B 1 q,.V 2 p,.S 1 l,.V 2 ((vz (n:=n+3) (R:=R) (g:=h) ht m2).bad h3)])
 |@many k1 k2 k3 D9 S1 S2 S3 v w fd q h1 h2 h3=>
  refine tk.out h1 λu1 g1 p m1=>(QU (n:=n) (R:=R) (G:=G++g1) ht h2 m1 .new).out λu2 h l m2 hp hd hl=>(vz (n:=n+3) (R:=R) (g:=h) ht m2).out h3 λu3 g3 p3 m3=>?_
  obtain ⟨g',rfl⟩:=hp;refine .ok (g':=g1++(g'++g3)) ?_ m3;rw[<-ai,<-ai];exact wc GW [.v 2 (mS (n+6) k R [123] (sc t u::G)),.B 1 q,.V 2 p,.S 1 l,.V 2 p3,.v 0 (VM (kz k3 R) (sc t u3) (fK (g:=g3) hd) hl)]
end
structure Md where
 vs:List D
 ts:List D
 ps:List D
 gl:D
 sh:D
 gs:Int
 ss:Int
noncomputable abbrev flt(gl sh:D):O:=.inst 0 [(0,.obj 3),(1,.obj 4),(2,.d gl),(3,.d sh)]
noncomputable abbrev Md.r(M:Md):Rd:=⟨.obj 5,M.gs,M.ss⟩
noncomputable abbrev Md.h(M:Md)(g:Store):Store:=flt M.gl M.sh::cx M.vs::cx M.ts::cx M.ps::g
noncomputable def six(t:Tx)(M:Md)(k:Tk)(u:Tx)(g:Store):Store:=rs t M.r k u (M.h g)
noncomputable def tj(t:Tx)(res:Res V):Out Md->Prop
 | .exc x=>res= .exc x
 | .ok M k S=>∃u g v,res= .ok v (six t M k u g)/\Sm t u S
noncomputable def isName:Tv->Bool
 | .w _=>true
 | .q _=>true
 |_=>false
inductive D_(M:Md)(k:Tk)(S:dA):Out Md->Prop
 |VR {x:Int}:rZ k S (.exc x)->D_ M k S (.exc x)
 |CB {k1:Tk} {S1:dA} {dm:D} {x:Int}:rZ k S (.ok (.d dm) k1 S1)->eP [58] k1 S1= .exc x->D_ M k S (.exc x)
 |N6 {k1 k2:Tk} {S1 S2:dA} {dm:D} {v:V}:rZ k S (.ok (.d dm) k1 S1)->eP [58] k1 S1= .ok v k2 S2->isName k2.d=false->D_ M k S (.exc k2.p)
 |pY {k1 k2:Tk} {S1 S2:dA} {dm:D} {v:V} {x:Int}:rZ k S (.ok (.d dm) k1 S1)->eP [58] k1 S1= .ok v k2 S2->isName k2.d=true->ez k2 S2= .exc x->D_ M k S (.exc x)
 |ok {k1 k2 k3:Tk} {S1 S2 S3:dA} {dm:D} {v:V}:rZ k S (.ok (.d dm) k1 S1)->eP [58] k1 S1= .ok v k2 S2->isName k2.d=true->ez k2 S2= .ok (.d k2.D) k3 S3->M.vs.length<lim->D_ M k S (.ok {M with vs:=M.vs++[.tup [k2.d.D,dm]]} k3 S3)
inductive Mc(M:Md)(k:Tk)(S:dA):Out Md->Prop
 |x {x:Int}:M.ps.length<lim->PD none [] k S (.exc x)->Mc M k S (.exc x)
 |ok {k':Tk} {S':dA} {d:D}:M.ps.length<lim->M.ts.length<lim->PD none [] k S (.ok (.d d) k' S')->Mc M k S (.ok {M with ps:=M.ps++[.int k.p],ts:=M.ts++[d]} k' S')
inductive CD(M:Md)(sp:Int)(k:Tk)(S:dA):Out Md->Prop
 |two:M.ss≥0->CD M sp k S (.exc sp)
 |x {x:Int}:¬M.ss≥0->PD none [] k S (.exc x)->CD M sp k S (.exc x)
 |ok {k':Tk} {S':dA} {d:D}:¬M.ss≥0->PD none [] k S (.ok (.d d) k' S')->CD M sp k S (.ok {M with ss:=k.p,sh:=d} k' S')
noncomputable abbrev Ku:List D:=[.str (tx "satisfy"),.str (tx "minimize"),.str (tx "maximize")]
noncomputable abbrev N7(k:Tk):Bool:=t7 k.d.D (.str (tx "satisfy"))
inductive uW(M:Md)(sp:Int)(k:Tk)(S:dA):Out Md->Prop
 |two:M.gs≥0->uW M sp k S (.exc sp)
 |pY {x:Int}:¬M.gs≥0->ez k S= .exc x->uW M sp k S (.exc x)
 |bad {k1:Tk} {S1:dA}:¬M.gs≥0->ez k S= .ok (.d k.D) k1 S1->(isWord k.d&&kW Ku k.d.D)=false->uW M sp k S (.exc k.p)
 |N7 {k1:Tk} {S1:dA}:¬M.gs≥0->ez k S= .ok (.d k.D) k1 S1->(isWord k.d&&kW Ku k.d.D)=true->N7 k=true->uW M sp k S (.ok {M with gs:=k.p,gl:=.tup [k.d.D,.none]} k1 S1)
 |VS {k1:Tk} {S1:dA} {x:Int}:¬M.gs≥0->ez k S= .ok (.d k.D) k1 S1->(isWord k.d&&kW Ku k.d.D)=true->N7 k=false->pNum k1 S1= .exc x->uW M sp k S (.exc x)
 |num {k1 k2:Tk} {S1 S2:dA} {i:Int}:¬M.gs≥0->ez k S= .ok (.d k.D) k1 S1->(isWord k.d&&kW Ku k.d.D)=true->N7 k=false->pNum k1 S1= .ok (tI i) k2 S2->uW M sp k S (.ok {M with gs:=k.p,gl:=.tup [k.d.D,.int i]} k2 S2)
noncomputable abbrev qP:Tx:=tx "var"
noncomputable abbrev ux:Tx:=tx "constraint"
noncomputable abbrev yv:Tx:=tx "solve"
noncomputable abbrev xg:Tx:=tx "output"
inductive pd(M:Md)(h:Tk)(k:Tk)(S:dA):Out Md->Prop
 |var {o:Out Md}:AD h qP=true->D_ M k S o->pd M h k S o
 |con {o:Out Md}:AD h qP=false->AD h ux=true->Mc M k S o->pd M h k S o
 |sol {o:Out Md}:AD h qP=false->AD h ux=false->AD h yv=true->uW M h.p k S o->pd M h k S o
 |out {o:Out Md}:AD h qP=false->AD h ux=false->AD h yv=false->AD h xg=true->CD M h.p k S o->pd M h k S o
 |non:AD h qP=false->AD h ux=false->AD h yv=false->AD h xg=false->pd M h k S (.exc h.p)
inductive uX(M:Md)(k:Tk)(S:dA):Out Md->Prop
 |pY {x:Int}:ez k S= .exc x->uX M k S (.exc x)
 |N8 {k1:Tk} {S1:dA} {x:Int}:ez k S= .ok (.d k.D) k1 S1->pd M k k1 S1 (.exc x)->uX M k S (.exc x)
 |CB {k1 k2:Tk} {S1 S2:dA} {M':Md} {x:Int}:ez k S= .ok (.d k.D) k1 S1->pd M k k1 S1 (.ok M' k2 S2)->eP [59] k2 S2= .exc x->uX M k S (.exc x)
 |ok {k1 k2 k3:Tk} {S1 S2 S3:dA} {w:V} {M':Md}:ez k S= .ok (.d k.D) k1 S1->pd M k k1 S1 (.ok M' k2 S2)->eP [59] k2 S2= .ok w k3 S3->uX M k S (.ok M' k3 S3)
section
variable{t u:Tx}{g:Store}{k h:Tk}{S:dA}{n:Nat}{M M':Md}{o:Out Md}{res:Res V}{x sp:Int}{v:V}
theorem tj.exc(h:res= .exc x):tj t res (.exc x):=h
theorem tj.ok(h:res= .ok v (six t M k u g))(m:Sm t u S):tj t res (.ok M k S):=⟨u,g,v,h,m⟩
theorem tj.bad(p:tj t res o)(e:o= .exc x):res= .exc x:=by cases e;exact p
theorem tj.out{C:Prop}(p:tj t res o)(e:o= .ok M k S)(f:∀u g v,res= .ok v (six t M k u g)->Sm t u S->C):C:=by
 subst e;exact p.elim λu z0=>z0.elim λg z1=>z1.elim λv z2=>z2.elim λp1 p2=>f u g v p1 p2
noncomputable def aay(n:Nat)(t:Tx)(M:Md)(k:Tk)(u:Tx)(g:Store)(x y:D)(h:M.vs.length<lim):Fa (Res V):=fq (l:=cl (n+1) 126 [.obj 2,.d x,.d y] (six t M k u g)) (r:=.ok (tI (((M.vs++[D.tup [x,y]]).map V.d).length - 1)) (six t {M with vs:=M.vs++[D.tup [x,y]]} k u g)) (by
 exact wc Vy [.v 3 (Kt (kz k M.r) (sc t u) (h:=M.h g) (j:=1) (ds:=M.vs) (D.tup [x,y]) rfl (cf h)),.v 1 (rY (kz k M.r) (sc t u) (h:=Md.h {M with vs:=M.vs++[D.tup [x,y]]} g) (j:=1) (l:=(M.vs++[D.tup [x,y]]).map V.d) rfl (by rw[af,ae];exact h))])
noncomputable def aaz(n:Nat)(t:Tx)(M:Md)(k:Tk)(u:Tx)(g:Store)(x:D)(h:M.ts.length<lim):Fa (Res V):=fq (l:=cl (n+1) 133 [.obj 2,.d x] (six t M k u g)) (r:=.ok (.d .none) (six t {M with ts:=M.ts++[x]} k u g)) (by
 exact wc Vz [.v 2 (Kt (kz k M.r) (sc t u) (h:=M.h g) (j:=2) (ds:=M.ts) x rfl (cf h))])
noncomputable def Ea(k:Tk):Fa Bool:=fq (l:=!kW [.str (tx "word"),.str (tx "text")] (.str k.d.a)) (r:=!isName k.d) (by obtain ⟨d,p⟩:=k;cases d<;>kernel_rfl)
theorem aaA(ht:t.length<=lim)(m:Sm t u S)(d:D_ M k S o):tj t (cl (n+9) 436 [.obj 0] (six t M k u g)) o:=by
 have dm:=λ{o} (d:rZ k S o)=>aax (n:=n) (R:=M.r) (G:=M.h g) ht m d
 have wn:=λ(k1 u1 g1 S1) (m1:Sm t u1 S1)=>Cz (n:=n+3) (k:=k1) (R:=M.r) (g:=M.h g1) (s:=[58]) ht (show 1<=100 by decide) m1
 cases d with
 |VR h=>exact .exc (wc Jd [.V 2 ((dm h).bad rfl)])
 |CB h h1=>exact (dm h).out rfl λu1 g1 p m1=>.exc (wc Jd [.V 2 p,.V 2 ((wn _ _ (g++g1) _ m1).bad h1)])
 |N6 h h1 h2=>exact (dm h).out rfl λu1 g1 p m1=>(wn _ _ (g++g1) _ m1).out h1 λu2 g2 p2 m2=>.exc (wc Jd [.V 2 p,.V 2 p2,.B 4 ((Ea _).h.trans (congrArg not h2))])
 |pY h h1 h2 h3=>exact (dm h).out rfl λu1 g1 p m1=>(wn _ _ (g++g1) _ m1).out h1 λu2 g2 p2 m2=>.exc (wc Jd [.V 2 p,.V 2 p2,.B 4 ((Ea _).h.trans (congrArg not h2)),.V 5 (((λ(k1 u1 g1 S1) (m1:Sm t u1 S1)=>vz (n:=n+4) (k:=k1) (R:=M.r) (g:=M.h g1) ht m1) _ _ (g++g1++g2) _ m2).bad h3)])
 |@ok k1 k2 k3 S1 S2 S3 VT v h h1 h2 h3 h4=>
  exact (dm h).out rfl λu1 g1 p m1=>(wn _ _ (g++g1) _ m1).out h1 λu2 g2 p2 m2=>((λ(k1 u1 g1 S1) (m1:Sm t u1 S1)=>vz (n:=n+4) (k:=k1) (R:=M.r) (g:=M.h g1) ht m1) _ _ (g++g1++g2) _ m2).out h3 λu3 g3 p3 m3=>
   .ok (g:=g++g1++g2++g3) (v:=.d .none) (wc Jd [.V 2 p,.V 2 p2,.B 4 ((Ea k2).h.trans (congrArg not h2)),.V 5 p3,.v 1 (aay (n+7) t M k3 u3 (g++g1++g2++g3) k2.d.D VT h4)]) m3
theorem aaB(ht:t.length<=lim)(m:Sm t u S)(d:Mc M k S o):tj t (cl (n+9) 443 [.obj 0] (six t M k u g)) o:=by
 cases d with
 |x h d=>exact .exc (wc VD [.v 4 (Kt (kz k M.r) (sc t u) (h:=M.h g) (j:=3) (.int k.p) rfl (cf h)),.V 5 (((λ{o} d=>Mb (n:=n) (R:=M.r) (G:=Md.h {M with ps:=M.ps++[.int k.p]} g) ht m d) d).bad rfl)])
 |@ok k' S' d' h h' d=>exact ((λ{o} (d:PD none [] k S o)=>Mb (n:=n) (R:=M.r) (G:=Md.h {M with ps:=M.ps++[.int k.p]} g) ht m d) d).out rfl λu' g' p m'=>.ok (g:=g++g') (v:=.d .none) (wc VD [.v 4 (Kt (kz k M.r) (sc t u) (h:=M.h g) (j:=3) (.int k.p) rfl (cf h)),.V 5 p,.v 0 (aaz (n+7) t {M with ps:=M.ps++[.int k.p]} k' u' (g++g') d' h')]) m'
theorem aaC(ht:t.length<=lim)(m:Sm t u S)(d:CD M sp k S o):tj t (cl (n+9) 457 [.obj 0,tI sp] (six t M k u g)) o:=by
 cases d with
 |two h=>exact .exc (wc QI [.B 2 (decide_eq_true h)])
 |x h d=>exact .exc (wc QI [.B 2 (decide_eq_false h),.V 5 (((λ{o} d=>Mb (n:=n) (R:=⟨.obj 5,M.gs,k.p⟩) (G:=M.h g) ht m d) d).bad rfl)])
 |ok h d=>exact ((λ{o} (d:PD none [] k S o)=>Mb (n:=n) (R:=⟨.obj 5,M.gs,k.p⟩) (G:=M.h g) ht m d) d).out rfl λu' g' p m'=>.ok (g:=g++g') (v:=.d .none) (wc QI [.B 2 (decide_eq_false h),.V 5 p]) m'
noncomputable def eqv(d:Tv)(s:Tx):Fa (Internal.M Bool):=fq (l:=vEq (.d d.D) (tS s)) (r:=Internal.M.ret (t7 d.D (.str s))) (if_pos (ac (gY _ _) (aZ _)))
noncomputable def XX(d:Tv)(l:List D):Fa (Internal.M Bool):=fq (l:=vNotIn (.d d.D) (.d (.tup l))) (r:=Internal.M.ret (!kW l d.D)) (by cases d<;>rfl)
theorem aaD(ht:t.length<=lim)(m:Sm t u S)(d:uW M sp k S o):tj t (cl (n+6) 450 [.obj 0,tI sp] (six t M k u g)) o:=by
 have tk:=vz (n:=n+1) (k:=k) (R:=⟨.obj 5,k.p,M.ss⟩) (g:=M.h g) ht m;have nm:=λ(k1 u1 g1 S1) (m1:Sm t u1 S1)=>Jk (n:=n) (k:=k1) (R:=⟨.obj 5,k.p,M.ss⟩) (g:=M.h g1) ht m1
 cases d with
 |two h=>exact .exc (wc D7 [.B 2 (decide_eq_true h)])
 |pY h h1=>exact .exc (wc D7 [.B 2 (decide_eq_false h),.V 5 (tk.bad h1)])
 |bad h h1 h2=>
  refine tk.out h1 λu1 g1 p m1=>.exc ?_
  cases q:isWord k.d with
  |false=>exact wc D7 [.B 2 (decide_eq_false h),.V 5 p,.B 2 (congrArg not ((vA k).h.trans q))]
  |true=>rw [q] at h2;exact wc D7 [.B 2 (decide_eq_false h),.V 5 p,.B 2 (congrArg not ((vA k).h.trans q)),.t 1 (XX k.d Ku),.B 0 (congrArg not h2)]
 |N7 h h1 h2 h3=>
  refine cps λP9 k9=>(aj.mp h2).elim λh5 h6=>k9 ?_
  exact tk.out h1 λu1 g1 p m1=>.ok (g:=g++g1) (v:=.d .none) (wc D7 [.B 2 (decide_eq_false h),.V 5 p,.B 2 (congrArg not ((vA k).h.trans h5)),.t 1 (XX k.d Ku),.B 0 (congrArg not h6),.t 2 (eqv k.d (tx "satisfy")),.B 0 h3]) m1
 |VS h h1 h2 h3 h4=>
  refine (aj.mp h2).elim λh5 h6=>?_
  exact tk.out h1 λu1 g1 p m1=>.exc (wc D7 [.B 2 (decide_eq_false h),.V 5 p,.B 2 (congrArg not ((vA k).h.trans h5)),.t 1 (XX k.d Ku),.B 0 (congrArg not h6),.t 2 (eqv k.d (tx "satisfy")),.B 0 h3,.V 2 ((nm _ _ (g++g1) _ m1).bad h4)])
 |num h h1 h2 h3 h4=>
  refine (aj.mp h2).elim λh5 h6=>?_
  exact tk.out h1 λu1 g1 p m1=>(nm _ _ (g++g1) _ m1).out h4 λu2 g2 p2 m2=>.ok (g:=g++g1++g2) (v:=.d .none) (wc D7 [.B 2 (decide_eq_false h),.V 5 p,.B 2 (congrArg not ((vA k).h.trans h5)),.t 1 (XX k.d Ku),.B 0 (congrArg not h6),.t 2 (eqv k.d (tx "satisfy")),.B 0 h3,.V 2 p2]) m2
end
class inductive lI:Md->Tk->dA->Out Md->Prop
 |stop {M:Md} {k:Tk} {S:dA}:k.d= .e->lI M k S (.ok M k S)
 |turn {M M':Md} {k k':Tk} {S S':dA} {o:Out Md}:(k.d.a==L8)=false->uX M k S (.ok M' k' S')->lI M' k' S' o->lI M k S o
 |N9 {M:Md} {k:Tk} {S:dA} {x:Int}:(k.d.a==L8)=false->uX M k S (.exc x)->lI M k S (.exc x)
noncomputable abbrev QV(h:Tk):Env:=[some (.obj 0),some (.d h.D)]
noncomputable abbrev QW:Env:=[some (.obj 0),none,none,none,none]
noncomputable def Me(t:Tx)(ρ:Env)(r:RS):Out Md->Prop
 | .exc x=>r= .exc x ρ
 | .ok M k S=>∃u g,r= .ok .next ρ (six t M k u g)/\Sm t u S
section
variable{S:dA}{M M':Md}
theorem Me.of(p:tj t res o)(hx:∀x,res= .exc x->r= .exc x ρ)(hk:∀v M k u g,res= .ok v (six t M k u g)->r= .ok .next ρ (six t M k u g)):Me t ρ r o:=by
 cases o with
 |exc x=>exact hx x p
 |ok M k S=>
  obtain ⟨u,g,v,p,m⟩:=p;exact ⟨u,g,hk _ _ _ _ _ p,m⟩
theorem QX(ht:t.length<=lim)(m:Sm t u S)(d:pd M h k S o):Me t (QV h) (LR.m (aQ TT (n+10)) (QV h) (six t M k u g)) o:=by
 cases d with
 |var e d=>exact .of (aaA (n:=n+1) (g:=g) ht m d) (λx p=>ws [.t 2 (vX h qP),.B 0 e,.V 2 p]) λv M' k' u' g' p=>ws [.t 2 (vX h qP),.B 0 e,.V 2 p]
 |con e e1 d=>exact .of (aaB (n:=n+1) (g:=g) ht m d) (λx p=>ws [.t 2 (vX h qP),.B 0 e,.t 2 (vX h ux),.B 0 e1,.V 2 p]) λv M' k' u' g' p=>ws [.t 2 (vX h qP),.B 0 e,.t 2 (vX h ux),.B 0 e1,.V 2 p]
 |sol e e1 e2 d=>exact .of (aaD (n:=n+4) (g:=g) ht m d) (λx p=>ws [.t 2 (vX h qP),.B 0 e,.t 2 (vX h ux),.B 0 e1,.t 2 (vX h yv),.B 0 e2,.V 3 p]) λv M' k' u' g' p=>ws [.t 2 (vX h qP),.B 0 e,.t 2 (vX h ux),.B 0 e1,.t 2 (vX h yv),.B 0 e2,.V 3 p]
 |out e e1 e2 e3 d=>exact .of (aaC (n:=n+1) (g:=g) ht m d) (λx p=>ws [.t 2 (vX h qP),.B 0 e,.t 2 (vX h ux),.B 0 e1,.t 2 (vX h yv),.B 0 e2,.t 2 (vX h xg),.B 0 e3,.V 3 p]) λv M' k' u' g' p=>ws [.t 2 (vX h qP),.B 0 e,.t 2 (vX h ux),.B 0 e1,.t 2 (vX h yv),.B 0 e2,.t 2 (vX h xg),.B 0 e3,.V 3 p]
 |non e e1 e2 e3=>
  show _=RS.exc _ _;exact ws [.t 2 (vX h qP),.B 0 e,.t 2 (vX h ux),.B 0 e1,.t 2 (vX h yv),.B 0 e2,.t 2 (vX h xg),.B 0 e3]
theorem VU(ht:t.length<=lim)(m:Sm t u S)(d:uX M k S o):tj t (cl (n+11) 464 [.obj 0] (six t M k u g)) o:=by
 have tk:=vz (n:=n+6) (k:=k) (R:=M.r) (g:=M.h g) ht m;have pre:∀{k1 u1 g1},cl (n+10) 343 [.obj 0] (six t M k u g)= .ok (.d k.D) (six t M k1 u1 g1)->cl (n+11) 464 [.obj 0] (six t M k u g)=fin ((LR.m (aQ TT (n+10)) (QV k) (six t M k1 u1 g1)).bind ((zz I7.tail).m (aQ TT (n+10)))):=λp=>wh VE (ws [.V 2 p])
 cases d with
 |pY h=>exact .exc (wc VE [.V 2 (tk.bad h)])
 |N8 h d=>
  refine tk.out h λu1 g1 p m1=>.exc ?_
  rw[pre (g1:=g++g1) p,show LR.m _ _ _=_ from QX ht m1 d];rfl
 |@CB k1 k2 S1 S2 M' x h d w=>
  refine tk.out h λu1 g1 p m1=>.exc ?_
  refine (QX (n:=n) (g:=g++g1) ht m1 d).elim λu2 z0=>z0.elim λg2 z1=>z1.elim λe m2=>?_
  rw[pre (g1:=g++g1) p,e];show fin ((zz I7.tail).m (aQ TT (n+10)) _ _)=_;exact wf [.V 2 ((Cz (n:=n+5) (R:=M'.r) (g:=M'.h g2) (s:=[59]) ht (show 1<=100 by decide) m2).bad w)]
 |@ok k1 k2 k3 S1 S2 S3 w M' h d e=>
  refine tk.out h λu1 g1 p m1=>?_
  refine (QX (n:=n) (g:=g++g1) ht m1 d).elim λu2 z0=>z0.elim λg2 z1=>z1.elim λe2 m2=>?_
  refine (Cz (n:=n+5) (R:=M'.r) (g:=M'.h g2) (s:=[59]) ht (show 1<=100 by decide) m2).out e λu3 g3 p3 m3=>.ok (g:=g2++g3) (v:=.d .none) ?_ m3
  rw[pre (g1:=g++g1) p,e2];show fin ((zz I7.tail).m (aQ TT (n+10)) _ _)=_;exact wf [.V 2 p3]
theorem VV(ht:t.length<=lim)(d:lI M k S o):∀{u g},Sm t u S->∃r,gw T476.m L476.m (aQ TT (n+11)) QW (six t M k u g) r/\Me t QW r o:=by
 induction d with
 |@stop M k S h=>
  obtain ⟨U,p⟩:=k;cases h;exact λ{u g} m=>⟨_,.stop (we []),u,g,rfl,m⟩
 |@turn M M' k k' S S' o h d U ih=>
  intro u g m;refine (VU (n:=n) (g:=g) ht m d).out rfl λu' g' v p m'=>?_
  obtain ⟨r,l,q⟩:=ih (u:=u') (g:=g') m';exact ⟨r,.turn (σ₁:=six t M k u g) (we [.B 3 (congrArg not h)]) (ws [.V 2 p]) l,q⟩
 |@N9 M k S x h d=>
  intro u g m;exact ⟨_,.exc (σ₁:=six t M k u g) (ρ₂:=QW) (we [.B 3 (congrArg not h)]) (ws [.V 2 ((VU (n:=n) (g:=g) ht m d).bad rfl)]),rfl⟩
end
section
variable{C:nj}{ρ r:Env}{σ:Store}{o:Option V}{i:XI}{e:XE}{cap:List (Option Nat)}{l:List D}{f:D->D}{b:D->Bool}
theorem G5(he:∀x∈l,e.m C (some (.d x)::r) σ= .ok (.d (f x)) σ):∀{o:Option V},∃o',hH (mT (uv 0)) (bE (xR bTrue) e) C (l.map .d) (o::r) σ= .ok (o'::r,l.map f) σ:=by
 induction l with
 |nil=>exact λ{o}=>⟨o,rfl⟩
 |cons x l ih=>
  intro o;refine (ih (λy hy=>he y (.tail _ hy)) (o:=some (.d x))).elim λo2 h3=>?_
  refine ⟨o2,?_⟩;have h4:bE (xR bTrue) e C (some (.d x)::r) σ= .ok (some (.d x)::r,[f x]) σ:=by
   show (e.m C (some (.d x)::r) σ).bind _=_;rw[he x (.head _)];rfl
  show (bE (xR bTrue) e C (some (.d x)::r) σ).bind _=_;rw[h4];show (hH _ _ C (l.map .d) (some (.d x)::r) σ).bind _=_;rw[h3];rfl
theorem ce(hm:i.m C ρ σ= .ok (l.map .d) σ)(hc:Ho cap ρ=o::r)(he:∀x∈l,e.m C (some (.d x)::r) σ= .ok (.d (f x)) σ)(hl:l.length<=lim):s6 i.m (mT (uv 0)) (bE (xR bTrue) e) cap C ρ σ= .ok (.d (.list (l.map f))) σ:=by
 show (i.m C ρ σ).bind _=_;rw[hm];show ri (hH _ _ C _ (Ho cap ρ) σ)=_;refine (G5 he (o:=o)).elim λo' h=>?_
 rw[hc,h];exact if_pos (by rw[af];exact hl)
theorem G6:bools (l.map λx=>.bool (b x))=some (l.map b):=by
 induction l with
 |nil=>rfl
 |cons x l ih=>
  show (D.bool (b x)::l.map λx=>D.bool (b x)).mapM (λd=>d.lC some none)=_
  rw[lM,(show (l.map λx=>D.bool (b x)).mapM (λd=>d.lC some none)=some (l.map b) from ih)];rfl
noncomputable def G7(l:List D)(b:D->Bool):Fa (M V):=fq (l:=bAll [.d (.list (l.map λx=>.bool (b x)))]) (r:=M.ret (.d (.bool (l.all b)))) (by
 show M.opt ((bools _).map _)=_;rw[G6];exact congrArg (λz=>M.ret (V.d (.bool z))) (by rw[tA];rfl))
end
noncomputable def AG:D->Bool
 | .int _=>true
 |_=>false
noncomputable def AH(many:Int):D->Bool
 | .int i=>decide (0<=i)&&decide (i<many)
 |_=>false
noncomputable def Kv:D->Bool
 | .none=>false
 | .list _=>false
 |_=>true
noncomputable abbrev ret(d:D):M V:=M.ret (.d d)
theorem QY(n:Nat){x:D}(h:Kv x=true):cl (n+1) 161 [.d x]=ret (.bool (AG x)):=by
 cases x with
 |none=>cases h
 |list=>cases h
 |_=>exact funext λσ=>wc ZR []
theorem Mf(n:Nat){x:D}{many:Int}(h:Kv x=true):cl (n+2) 173 [.d x,tI many]=ret (.bool (AH many x)):=by
 have e:=QY n h;cases x with
 |none=>cases h
 |list=>cases h
 |int i=>
  refine funext λσ=>?_
  show _=Res.ok (V.d (.bool (decide (0<=i)&&decide (i<many)))) σ;cases q:decide (0<=i)<;>exact wc VA [.B 4 q]
 |_=>exact funext λσ=>wc VA []
theorem VW(n:Nat)(σ:Store){c:Tx}{p:Int}(h:c≠[]):cl (n+1) 471 [.obj 0,tS c,tI p] σ= .exc p:=wc Z2 [.B 1 (congrArg not (beq_eq_false_iff_ne.mpr h))]
noncomputable abbrev CE:D:=.tup [.tup [.int 0,.int 1]]
noncomputable def Eb(vs:List D)(x:D):Prop:=∃(j:Nat) (nm:D),x= .int j/\j<1000/\vs[j]? =some (.tup [nm,CE])
noncomputable def G8(N:Nat)(many:Int)(d:D)(m:Tx):Prop:=cl N 188 [.d d,tI many]=ret (.str m)
noncomputable def pe(N:Nat)(many:Int)(d:D):Prop:=∃m,m≠[]/\G8 N many d m
noncomputable def pZ(N:Nat)(d:D)(l:List D):Prop:=cl N 195 [.d d]=ret (.tup l)
noncomputable def Good(N:Nat)(vs:List D)(d:D):Prop:=G8 N vs.length d []/\∃l,pZ N d l/\l.length<=lim/\∀x∈l,Eb vs x
class inductive Mg (N:Nat) (vs:List D):List D->List Int->Option Int->Prop
 |nil:Mg N vs [] [] none
 |ok {d:D} {p:Int} {ds:List D} {ps:List Int} {o:Option Int}:Good N vs d->Mg N vs ds ps o->Mg N vs (d::ds) (p::ps) o
 |bad {d:D} {p:Int} {ds:List D} {ps:List Int}:pe N vs.length d->Mg N vs (d::ds) (p::ps) (some p)
noncomputable def fz(t:Tx)(M:Md)(k:Tk)(u:Tx)(g:Store):Store:=rs t ⟨.d (.list M.ps),M.gs,M.ss⟩ k u (.inst 0 [(0,.obj 3),(1,.d (.list M.ts)),(2,.d M.gl),(3,.d M.sh)]::cx M.vs:: .dead:: .dead::g)
theorem toDs_map(l:List D):toDs (l.map .d)=some l:=by
 induction l with
 |nil=>rfl
 |cons x l ih=>exact (congrArg (oK _) ih).trans rfl
theorem tm{σ:Store}{i:Nat}{l:List D}(h:σ[i]? =some (cx l)):BX (.obj i) σ= .ok (.d (.list l)) (σ.set i .dead):=by
 show E9 i σ[i]? σ=_;rw[h];show sF (toDs (l.map .d)) _ σ=_;rw[toDs_map];rfl
section
variable{t u:Tx}{g:Store}{k:Tk}{S:dA}{n N:Nat}{M:Md}{σ:Store}{C:nj}
noncomputable def fz1(t:Tx)(M:Md)(k:Tk)(u:Tx)(g:Store):Fa (Res V):=fq (l:=BY 1 (.obj 2) (six t M k u g)) (r:=.ok (.d (.list M.ts)) (rs t M.r k u (.inst 0 [(0,.obj 3),(1,.d (.list M.ts)),(2,.d M.gl),(3,.d M.sh)]::cx M.vs:: .dead::cx M.ps::g))) (by
 show (BX (.obj 4) (six t M k u g)).bind _=_;rw[tm (l:=M.ts) rfl];rfl)
noncomputable def fz9(t:Tx)(M:Md)(k:Tk)(u:Tx)(g:Store):Fa (Res V):=fq (l:=BY 9 (.obj 0) (rs t M.r k u (.inst 0 [(0,.obj 3),(1,.d (.list M.ts)),(2,.d M.gl),(3,.d M.sh)]::cx M.vs:: .dead::cx M.ps::g))) (r:=.ok (.d (.list M.ps)) (fz t M k u g)) (by
 show (BX (.obj 5) _).bind _=_;rw[tm (l:=M.ps) rfl];rfl)
noncomputable def QZ(n:Nat)(t:Tx)(M:Md)(k:Tk)(u:Tx)(g:Store)(hl:M.vs.length<=lim):Fa (Res V):=fq (l:=cl (n+1) 140 [.obj 2] (six t M k u g)) (r:=.ok (tI M.vs.length) (six t M k u g)) (by
 exact wc ZP [.v 1 (aar (kz k M.r) (sc t u) (h:=M.h g) (j:=1) (ds:=M.vs) rfl hl)])
theorem AI{α:Type}{l:List α}{j:Nat}{x:α}(hj:j<1000)(h:l[j]? =some x):zS l (j:Int)=some x:=by
 have e:jZ (j:Int) l.length=some j:=by
  unfold jZ;rw[if_neg (eK.mpr (bw _))];exact (if_pos (by rw[decide_eq_true (bw _),decide_eq_true (aP.mpr ((aL.mp h).1))];rfl)).trans (congrArg some (eE j))
 unfold zS;rw[if_pos ⟨bL (by decide) (bw _),aP.mpr (eQ hj (by decide))⟩,e]
 exact h
theorem aaG{x:D}(h:Eb M.vs x):cl (n+1) 147 [.obj 2,.d x] (fz t M k u g)= .ok (.d CE) (fz t M k u g):=by
 obtain ⟨j,nm,rfl,h1,h2⟩:=h;exact wc ZQ [.v 1 (itA (kz k ⟨.d (.list M.ps),M.gs,M.ss⟩) (sc t u) (h:=.inst 0 [(0,.obj 3),(1,.d (.list M.ts)),(2,.d M.gl),(3,.d M.sh)]::cx M.vs:: .dead:: .dead::g) (j:=1) (l:=M.vs.map .d) (x:=.d (.tup [nm,CE])) rfl (AI h1 (by rw[de,h2];rfl)))]
noncomputable abbrev Mh(M:Md)(a b:Option V):Env:=[some (.obj 0),some (tI M.vs.length),a,b,none]
theorem Jo{d:D}{p:Int}(h:Good N M.vs d)(n1:N=n+1):L476a.m (aQ TT N) (Mh M (some (.d d)) (some (tI p))) (fz t M k u g)= .ok .next (Mh M (some (.d d)) (some (tI p))) (fz t M k u g):=by
 subst n1;refine h.elim λh1 z0=>z0.elim λl z1=>z1.elim λh2 z2=>z2.elim λh3 h4=>?_
 have c:=ce (C:=aQ TT (n+1)) (σ:=fz t M k u g) (f:=λU=>.bool ((λ_:D=>true) D.none)) (i:=iE (xc 195 [xl 2])) (e:=xc 200 [xm 0 147 (xa 8 (xl 1)) [xl 0]]) (cap:=[none,some 0]) (o:=none) (r:=[some (.obj 0)]) (ρ:=Mh M (some (.d d)) (some (tI p)))
  (we [.M 0 h2]) rfl (λx hx=>we [.V 3 (aaG (n:=n) (t:=t) (k:=k) (u:=u) (g:=g) (h4 x hx))]) h3
 exact ws [.M 2 h1,.V 1 c,.m 0 (G7 l λU=>true),.B 1 ((aJ.mpr λU U=>rfl:(l.all λU=>true)=true))]
theorem G9{d:D}{p:Int}(h:pe N M.vs.length d)(n1:N=n+1):∃ρ,L476a.m (aQ TT N) (Mh M (some (.d d)) (some (tI p))) (fz t M k u g)= .exc p ρ:=by
 subst n1;obtain ⟨m,hm,h⟩:=h;exact ⟨Mh M (some (.d d)) (some (tI p)),ws [.M 2 h,.V 0 (VW n (fz t M k u g) (p:=p) hm)]⟩
noncomputable def N_(t:Tx)(M:Md)(k:Tk)(u:Tx)(g:Store)(r:RS):Option Int->Prop
 |some p=>∃ρ,r= .exc p ρ
 |none=>∃a b,r= .ok .next (Mh M a b) (fz t M k u g)
noncomputable abbrev prs(ds:List D)(ps:List Int):List V:=(ds.zip (ps.map .int)).map λq=>.d (.tup [q.1,q.2])
theorem VX{ds:List D}{ps:List Int}{o:Option Int}(h:Mg N M.vs ds ps o)(n1:N=n+1):∀{a b:Option V},N_ t M k u g (jf (prs ds ps) (mT (up [uv 2,uv 3])) L476a.m (aQ TT N) (Mh M a b) (fz t M k u g)) o:=by
 induction h with
 |nil=>exact λ{a b}=>⟨a,b,rfl⟩
 |@ok d p ds ps o h U ih=>
  intro a b;show N_ _ _ _ _ _ (RS.loop (L476a.m (aQ TT N) (Mh M (some (.d d)) (some (tI p))) (fz t M k u g)) _) _;rw[Jo h n1];exact ih
 |@bad d p ds ps h=>
  intro a b;obtain ⟨ρ,e⟩:=G9 (k:=k) (t:=t) h n1;refine ⟨ρ,?_⟩;show RS.loop (L476a.m (aQ TT N) (Mh M (some (.d d)) (some (tI p))) (fz t M k u g)) _=_;rw[e];rfl
noncomputable def AJ(many:Int)(gl:D):Prop:=∃kd,gl= .tup [kd,.none]\/∃i:Int,gl= .tup [kd,.int i]/\0<=i/\i<many
noncomputable def CF(N:Nat)(many:Int)(sh:D):Prop:=∀σ,∃g,cl N 214 [.d sh,tI many] σ= .ok (tS []) (σ++g)
noncomputable def Oa(t:Tx)(M:Md)(res:Res V):Option Int->Prop
 |some p=>res= .exc p
 |none=>∃k u g,res= .ok (.obj 2) (fz t M k u g)
theorem aaH(ht:t.length<=lim){Jp:Md}{uj:Tk}{D9:dA}{Jq:Tx}{g₀:Store}(m:Sm t Jq D9)(d:lI Jp uj D9 (.ok M k S)){ps:List Int}(hp:M.ps=ps.map .int)(hl:M.vs.length<=lim){o:Option Int}(hc:Mg (n+11) M.vs M.ts ps o)(hg:o=none->AJ M.vs.length M.gl/\CF (n+11) M.vs.length M.sh):
  Oa t M (cl (n+12) 476 [.obj 0] (six t Jp uj Jq g₀)) o:=by
 refine cps λP9 k9=>?_
 obtain ⟨r,l,u,g,rfl,m'⟩:=VV (n:=n) (g:=g₀) ht d m;have f:=VX (k:=k) (t:=t) (u:=u) (g:=g) hc rfl (a:=none) (b:=none);have e:prs M.ts ps=(M.ts.zip M.ps).map λq=>.d (.tup [q.1,q.2]):=by rw[hp]
 rw[e] at f;cases o with
 |some p=>
  exact f.elim λρ f=>k9 (wc LY [.S 0 l.eq,.v 3 (QZ (n+10) t M k u g hl),.v 1 (fz1 t M k u g),.v 0 (fz9 t M k u g),.S 0 f])
 |none=>
  obtain ⟨a,b,f⟩:=f;obtain ⟨⟨kd,hg⟩,hs⟩:=hg rfl;refine (hs (fz t M k u g)).elim λg' hs=>k9 ⟨k,u,g++g',?_⟩
  rcases hg with q|⟨i,q,h1,h2⟩
  ·have aq:vItem (.d M.gl) (tI 1)=ret .none:=by rw[q];rfl
   exact wc LY [.S 0 l.eq,.v 3 (QZ (n+10) t M k u g hl),.v 1 (fz1 t M k u g),.v 0 (fz9 t M k u g),.S 0 f,.M 2 aq,.V 10 hs]
  ·have aq:vItem (.d M.gl) (tI 1)=ret (.int i):=by rw[q];rfl
   exact wc LY [.S 0 l.eq,.v 3 (QZ (n+10) t M k u g hl),.v 1 (fz1 t M k u g),.v 0 (fz9 t M k u g),.S 0 f,.M 2 aq,.M 4 ((Mf (n+9) rfl).trans (congrArg (λb=>ret (.bool b)) (show AH M.vs.length (.int i)=true by show (decide _&&decide _)=true;rw[decide_eq_true h1,decide_eq_true h2];rfl))),.V 8 hs]
theorem VY(ht:t.length<=lim){Jp:Md}{uj:Tk}{D9:dA}{Jq:Tx}{g₀:Store}{x:Int}(m:Sm t Jq D9)(d:lI Jp uj D9 (.exc x)):cl (n+12) 476 [.obj 0] (six t Jp uj Jq g₀)= .exc x:=by
 refine cps λP9 k9=>?_
 obtain ⟨r,l,e⟩:=VV (n:=n) (g:=g₀) ht d m;subst e;exact k9 (wc LY [.S 0 l.eq])
end
noncomputable abbrev M0:Md:=⟨[],[],[],.tup [.str (tx "satisfy"),.none],.tup [], -1, -1⟩
noncomputable def tu(S:dA):Out Md:=match S with
 | .fin e=>.ok M0 ⟨.e,e⟩ (.fin e)
 | .bad x=>.exc x
 | .cons k S=>.ok M0 k S
noncomputable def FC(S:dA):Prop:=match S with
 | .cons k _=>k.d.isQ=false
 |_=>True
section
variable{S:dA}{M:Md}
theorem Jr:sc t t=N0 t 0:=congrArg (N0 t) (Int.sub_self _)
noncomputable abbrev r0:Store:=[.inst 2 []]
theorem VZ(p:cl (n+3) 315 [.obj 1] [.inst 2 [(6,.obj 1)],sc t t]= .ok (.d (.tup [.str d.a,d.D,.int b])) [.inst 2 [(6,.obj 1)],sc t rest]):
  cl (n+4) 336 [.obj 0,tS t] r0= .ok (.d .none) [.inst 2 [(6,.obj 1),(7,.d (Tk.D ⟨d,b⟩))],sc t rest]:=by
 rw[Jr] at p;exact wc VB [.V 5 p]
theorem V0(p:cl (n+3) 315 [.obj 1] [.inst 2 [(6,.obj 1)],sc t t]= .exc x):cl (n+4) 336 [.obj 0,tS t] r0= .exc x:=by
 rw[Jr] at p;exact wc VB [.V 5 p]
theorem V3:cl (n+6) 479 [tS t] []=(cl (n+5) 336 [.obj 0,tS t] r0).bind λU σ=>(fin (I8.body (aQ TT (n+5)) [some (.obj 0),some (tS t)] σ)).bind λv σ'=>jG v (.ok (.obj 0) σ'):=by
 show Res.bind (Res.bind (cl (n+5) 336 [.obj 0,tS t] r0) _) _=_;cases cl (n+5) 336 [.obj 0,tS t] r0<;>rfl
theorem V4(p:cl (n+5) 336 [.obj 0,tS t] r0= .ok (.d .none) [.inst 2 [(6,.obj 1),(7,.d k.D)],sc t rest]):cl (n+6) 479 [tS t] []= .ok (.obj 0) (six t M0 k rest []):=by
 simp only [V3,p];kernel_rfl
noncomputable def V5(t:Tx)(res:Res V):Out Md->Prop
 | .exc x=>res= .exc x
 | .ok M k S=>∃u,res= .ok (.obj 0) (six t M k u [])/\Sm t u S
theorem V6(ht:t.length<=lim)(m:Sm t t S)(hf:FC S):V5 t (cl (n+6) 479 [tS t] []) (tu S):=by
 have p:=λ{v q} s=>L9 (n:=n+1) (r:=.inst 2 [(6,.obj 1)]) (g:=[]) (v:=v) (q:=q) ht (cu t) s
 cases m with
 |fin hu s=>
  obtain ⟨g,p,e⟩:=p s .fin;simp only [e rfl] at p;exact ⟨[],V4 (VZ p),.fin iI (.stop nofun)⟩
 |bad hu s q=>
  show _=Res.exc _;simp only [V3,V0 (p s q)];rfl
 |cons hu s q m'=>
  obtain ⟨g,p,e⟩:=p s q;simp only [e hf] at p;exact ⟨_,V4 (VZ p),m'⟩
theorem V7(ht:t.length<=lim)(m:Sm t t S)(hf:FC S)(hi:tu S= .ok M0 k ur)(d:lI M0 k ur (.ok M k' S'))(hp:M.ps=ps.map .int)(hl:M.vs.length<=lim)(hc:Mg (n+11) M.vs M.ts ps o)(hg:o=none->AJ M.vs.length M.gl/\CF (n+11) M.vs.length M.sh):
  Oa t M (cl (n+13) 488 [tS t] []) o:=by
 have q:=V6 (n:=n+6) ht m hf;simp only [hi] at q
 obtain ⟨u,q,m'⟩:=q;have r:=aaH (g₀:=[]) ht m' d hp hl hc hg;cases o with
 |some p=>show _=Res.exc _;exact wc LZ [.V 0 q,.V 2 r]
 |none=>
  obtain ⟨k,u,g,r⟩:=r;exact ⟨k,u,g,wc LZ [.V 0 q,.V 2 r]⟩
theorem V8(ht:t.length<=lim)(m:Sm t t S)(hf:FC S)(hi:tu S= .exc x\/∃k ur,tu S= .ok M0 k ur/\lI M0 k ur (.exc x)):cl (n+13) 488 [tS t] []= .exc x:=by
 refine cps λP9 k9=>?_
 have q:=V6 (n:=n+6) ht m hf;rcases hi with hi|⟨k,ur,hi,d⟩<;>rw [hi] at q
 ·exact k9 (wc LZ [.V 0 q])
 ·obtain ⟨u,q,m'⟩:=q;exact k9 (wc LZ [.V 0 q,.V 2 (VY (n:=n) (g₀:=[]) ht m' d)])
end
noncomputable def Bh(N:Nat)(many:Int)(c:Nat)(x:D)(b:Bool):Prop:=cl N 178 [tS [c],.d x,tI many]=ret (.bool b)
section
variable{l:List D}
theorem all_true:(l.all λU=>true)=true:=aJ.mpr λU U=>rfl
theorem V9(n:Nat)(hl:l.length<=lim)(h:∀x∈l,Kv x=true):cl (n+2) 166 [.d (.tup l)]=ret (.bool (l.all AG)):=funext λσ=>by
 have c:=ce (C:=aQ TT (n+1)) (σ:=σ) (f:=λx=>.bool (AG x)) (l:=l) (i:=iE (xl 0)) (e:=xc 161 [xl 0]) (cap:=[none]) (o:=none) (r:=[]) (ρ:=[some (.d (.tup l))]) (we []) rfl (λx hx=>we [.M 0 (QY n (h x hx))]) hl
 exact wc ZT [.V 2 c,.m 0 (G7 l AG)]
theorem Js(h:Kv x=true):Bh (n+3) many 120 x (AH many x):=funext λσ=>wc AA [.M 2 (Mf n (many:=many) h)]
theorem Ob(hl:l.length<=lim)(h:∀x∈l,Kv x=true):Bh (n+3) many 88 (.tup l) (l.all (AH many)):=funext λσ=>by
 have c:=ce (C:=aQ TT (n+2)) (σ:=σ) (f:=λx=>.bool (AH many x)) (l:=l) (i:=iE (xl 1)) (e:=xc 173 [xl 0,xl 1]) (cap:=[none,some 2]) (o:=none) (r:=[some (tI many)]) (ρ:=[some (tS [88]),some (.d (.tup l)),some (tI many)]) (we []) rfl (λx hx=>we [.M 0 (Mf n (many:=many) (h x hx))]) hl
 exact wc AA [.V 6 c,.m 0 (G7 l (AH many))]
theorem Jt:Bh (n+1) many 88 (.bool q) false:=funext λσ=>wc AA []
theorem zp(h:Kv x=true):Bh (n+2) many 110 x (AG x):=funext λσ=>wc AA [.M 6 (QY n h)]
theorem V'(hl:l.length<=lim)(h:∀x∈l,Kv x=true):Bh (n+3) many 78 (.tup l) (l.all AG):=funext λσ=>wc AA [.M 8 (V9 n hl h)]
theorem Q0:Bh (n+3) many 78 (.bool q) false:=funext λσ=>wc AA []
theorem Oc(hl:l.length<=lim)(h:∀x∈l,∃r:List D,x= .tup r/\r.length<=lim/\(∀y∈r,Kv y=true)/\r.all AG=true):Bh (n+3) many 82 (.tup l) true:=funext λσ=>by
 have c:=ce (C:=aQ TT (n+2)) (σ:=σ) (f:=λx=>.bool ((λ_:D=>true) x)) (l:=l) (i:=iE (xl 1)) (e:=xc 166 [xl 0]) (cap:=[none]) (o:=none) (r:=[]) (ρ:=[some (tS [82]),some (.d (.tup l)),some (tI many)]) (we []) rfl (λx hx=>by
  obtain ⟨r,rfl,h1,h2,h3⟩:=h x hx;exact we [.M 0 ((V9 n h1 h2).trans (congrArg (λb=>ret (.bool b)) h3))]) hl
 exact wc AA [.V 12 c,.m 0 (G7 l λU=>true),.B 1 (all_true (l:=l))]
theorem V_(h:s=tx "bounds"\/s=tx "values"):Bh (n+1) many 115 (.str s) true:=by
 rcases h with rfl|rfl<;>exact funext λσ=>wc AA []
noncomputable def ig{l:List D}(h:l.length<=lim):Fa (M V):=fq (l:=bLen [.d (.tup l)]) (r:=M.ret (tI l.length)) (if_pos h)
theorem eJ{j:Nat}(hj:j<1000)(h:l[j]? =some x):vItem (.d (.tup l)) (tI j)=ret x:=by
 have e:∀i:Int,vItem (.d (.tup l)) (.d (.int i))=M.opt ((zS l i).map V.d):=λU=>rfl
 exact (e _).trans (by rw[AI hj h];rfl)
noncomputable abbrev Wa:List D:=[.str (tx "linear_le"),.str (tx "linear_eq"),.str (tx "linear_ne")]
theorem Wb(hs:kW Wa (.str s)=true)(hl:(D.str s::l).length<=lim)(h:G8 (n+1) many (.tup (.str s::l)) []):Bh (n+2) many 116 (.tup (.str s::l)) true:=funext λσ=>by
 have gt:decide ((((D.str s::l).length:Nat):Int)>0)=true:=decide_eq_true (aP.mpr (bU _));exact wc AA [.m 14 (ig hl),.B 1 gt,.M 0 (eJ (l:=.str s::l) (j:=0) (by decide) rfl),.B 1 hs,.M 0 h]
end
section
theorem kL(h1:t x C ρ σ= .ok .next ρ₁ σ₁)(h2:b C ρ₁ σ₁= .ok .next ρ₂ σ₂):jf (x::xs) t b C ρ σ=jf xs t b C ρ₂ σ₂:=by
 show (t x C ρ σ).bind _=_;rw[h1];show RS.loop (b C ρ₁ σ₁) _=_;rw[h2];rfl
theorem Wc(h1:t x C ρ σ= .ok .next ρ₁ σ₁)(h2:b C ρ₁ σ₁= .ok (.ret v) ρ₂ σ₂):jf (x::xs) t b C ρ σ= .ok (.ret v) ρ₂ σ₂:=by
 show (t x C ρ σ).bind _=_;rw[h1];show RS.loop (b C ρ₁ σ₁) _=_;rw[h2];rfl
end
section
variable{name form cs acc s:Tx}
noncomputable def r4(i:Int):Bool:=decide (-9<=i/\i<=60)
theorem nE{p:Int->Bool}(h:∀k:Fin 70,p ((k.val:Int) - 9)=true)(hi:r4 i=true):p i=true:=by
 have t:=of_decide_eq_true hi;have h0:0<=i+9:=gK t.1 9
 have e:=h ⟨(i+9).toNat,(Int.toNat_lt h0).mpr (lO (gK t.2 9) (by decide))⟩
 dsimp only at e
 rwa [Int.toNat_of_nonneg h0,dy] at e
theorem gH{i:Int}(h:r4 i=true):small i=true/\(gB i).length<=2:=by
 have:=nE (p:=λi=>small i&&decide ((gB i).length<=2)) (by decide) h
 exact ⟨(aj.mp this).1,of_decide_eq_true (aj.mp this).2⟩
noncomputable def XY{i:Int}(h:r4 i=true):Fa (M V):=fq (l:=E7 (tI i)) (r:=M.ret (tS (gB i))) (if_pos (gH h).1)
theorem rj{l:Tx}(h:l.length<=k)(hk:b7 k lim=true:=by kernel_rfl):l.length<=lim:=ac h (aa hk)
theorem yw(h:acc.length<=k)(h':s.length<=m):(acc++s).length<=k+m:=by rw[ae];exact be h h'
theorem xh{k:Nat}(h:k<=60):r4 (k:Int)=true:=decide_eq_true ⟨aX (by decide) (bw k),c_.mpr h⟩
noncomputable abbrev dO(name:Tx)(args:List D):D:=.tup (.str name::args)
noncomputable abbrev r5(name:Tx)(args:List D)(many:Int)(form:Tx)(a b c d:Option V):Env:=[some (.d (dO name args)),some (tI many),some (tS name),some (tS form),a,b,c,d]
theorem itF(h:kA jc name=some (.str form)):vItem (.dict jc) (tS name)=ret (.str form):=by
 show M.opt ((kA jc name).map V.d)=_;rw[h];rfl
theorem uY(h:args.length<=50):(D.str name::args).length<=lim:=ac (aw h) (aa rfl)
theorem Ju(h:(args.length==form.length)=q):((((D.str name::args).length:Nat):Int)==(form.length:Int)+1)=q:=by
 rw[<-h,gd,beq_iff_eq,beq_iff_eq,bP];exact ⟨λe=>Int.ofNat.inj ((Int.add_left_inj 1).mp e),λe=>by rw[e];rfl⟩
class inductive pq (N:Nat) (many:Int):Tx->List D->Bool->Prop
 |nil:pq N many [] [] true
 |ok {c:Nat} {cs:Tx} {x:D} {xs:List D} {q:Bool}:Bh N many c x true->pq N many cs xs q->pq N many (c::cs) (x::xs) q
 |bad {c:Nat} {cs:Tx} {x:D} {xs:List D}:Bh N many c x false->pq N many (c::cs) (x::xs) false
noncomputable def We(name:Tx)(args:List D)(many:Int)(form:Tx)(c d:Option V)(r:Store->RS):Bool->Prop
 |true=>∃a b,r=λσ=>.ok .next (r5 name args many form a b c d) σ
 |false=>∃m ρ,m≠[]/\r=λσ=>.ok (.ret (tS m)) ρ σ
theorem Od(h1:args=pre++x::xs)(h3:args.length<=50):vItem (.d (dO name args)) (tI ((pre.length:Int)+1))=ret x:=by
 refine eJ (j:=pre.length+1) (bi (aw (ac (by rw[h1,ae];exact ak _ _) h3)) (aa rfl)) ?_
 rw[List.getElem?_cons_succ,h1,aY (ax _),dc];rfl
noncomputable abbrev sg1(cs:Tx)(i:Nat):List V:=(cs.zipIdx i).map λq=>.d (.tup [.int (q.2:Nat),.str [q.1]])
theorem t45:mT (up [uv 4,uv 5]) (.d (.tup [x,y])) C (r5 name args many form a b c d) σ= .ok .next (r5 name args many form (some (.d x)) (some (.d y)) c d) σ:=rfl
theorem Wf{q:Bool}(h:pq N many cs xs q)(hn:name.length<=100)(h3:args.length<=50):∀{pre:List D},args=pre++xs->∀{a b:Option V},
  We name args many form c d (jf (sg1 cs pre.length) (mT (up [uv 4,uv 5])) L188.m (aQ TT N) (r5 name args many form a b c d)) q:=by
 induction h with
 |nil=>intro pre _ a b;exact ⟨a,b,rfl⟩
 |@ok cc cs x xs q hf U ih=>
  intro pre h1 a b;rw[sg1,List.zipIdx_cons,cD,show jf (_::_) _ _ _ _=_ from funext λσ=>kL (t45 (x:=.int pre.length) (y:=.str [cc])) (ws [.M 1 (Od (name:=name) h1 h3),.M 0 hf])]
  have:=ih (pre:=pre++[x]) (by rw[ai];exact h1) (a:=some (tI pre.length)) (b:=some (tS [cc]))
  rw[ae] at this;exact this
 |@bad cc cs x xs hf=>
  intro pre h1 a b;have hl:pre.length+1<=args.length:=by rw[h1,ae];exact aK (bU _) _
  have t1:r4 ((pre.length:Int)+1)=true:=xh (k:=pre.length+1) (ac hl (ac h3 (aa rfl)));have l1:=yw (s:=tx ": argument ") hn (ax _)
  refine ⟨name++tx ": argument "++gB ((pre.length:Int)+1)++tx " is of another kind",r5 name args many form (some (tI pre.length)) (some (tS [cc])) c d,by simp only [ne_eq,f9,not_and];exact λU=>by decide+kernel,?_⟩
  exact funext λσ=>Wc (t45 (x:=.int pre.length) (y:=.str [cc])) (ws [.M 1 (Od (name:=name) h1 h3),.M 0 hf,.m 2 (QM (rj hn)),.m 0 (jS (acc:=[]) (rj hn)),.m 0 (jS (rj l1)),.m 1 (XY t1),.m 0 (jS (rj (yw l1 (gH t1).2))),.m 0 (jS (rj (yw (s:=tx " is of another kind") (yw l1 (gH t1).2) (ax _))))])
theorem G'(h:kA jc name=none)(hl:args.length<=50):pe (N+1) many (dO name args):=⟨tx "no constraint is told so",by decide,funext λσ=>wc LV [.m 4 (ig (uY (name:=name) hl)),.M 2 (eJ (l:=.str name::args) (j:=0) (by decide) rfl),.M 4 (eJ (l:=.str name::args) (j:=0) (by decide) rfl),.B 1 (congrArg (λo=>!o.isSome) h)]⟩
theorem Jv(h:kA jc name=some (.str form))(hn:name.length<=100)(hl:args.length<=50)(hf:form.length<=50)(e:(args.length==form.length)=false):pe (N+1) many (dO name args):=by
 have t1:r4 (form.length:Int)=true:=xh (ac hf (by decide))
 have t2:r4 (((D.str name::args).length:Int) - 1)=true:=by
  rw[show (((D.str name::args).length:Int) - 1)=args.length from dy (args.length:Int) 1]
  exact xh (ac hl (by decide))
 have l1:=yw (s:=tx " has ") hn (ax _);refine ⟨name++tx " has "++gB form.length++tx " arguments, not "++gB (((D.str name::args).length:Int) - 1),λq=>?_,funext λσ=>?_⟩
 ·exact absurd (f9.mp (f9.mp q).1).2 (by decide+kernel)
 ·exact wc LV [.m 4 (ig (uY (name:=name) hl)),.M 2 (eJ (l:=.str name::args) (j:=0) (by decide) rfl),.M 4 (eJ (l:=.str name::args) (j:=0) (by decide) rfl),.B 1 (congrArg (λo=>!o.isSome) h),.M 0 (eJ (l:=.str name::args) (j:=0) (by decide) rfl),.M 0 (eJ (l:=.str name::args) (j:=0) (by decide) rfl),.M 0 (itF h),.m 2 (ig (uY (name:=name) hl)),.m 0 (b8 (rj hf)),.B 2 (congrArg not (Ju (name:=name) e)),.m 0 (QM (rj hn)),.m 0 (jS (acc:=[]) (rj hn)),.m 0 (jS (rj l1)),.m 0 (b8 (rj hf)),.m 0 (XY t1),.m 0 (jS (rj (yw l1 (gH t1).2))),.m 0 (jS (rj (yw (s:=tx " arguments, not ") (yw l1 (gH t1).2) (ax _)))),.m 0 (ig (uY (name:=name) hl)),.m 1 (XY t2),.m 0 (jS (rj (yw (yw (s:=tx " arguments, not ") (yw l1 (gH t1).2) (ax _)) (gH t2).2)))]
theorem Jw(h:kA jc name=some (.str form))(hn:name.length<=100)(hl:args.length<=50)(hf:form.length<=50)(e:(args.length==form.length)=true)(ft:pq N many form args false):pe (N+1) many (dO name args):=by
 obtain ⟨m,ρ,h1,q⟩:=Wf (form:=form) (c:=none) (d:=none) ft hn hl (pre:=[]) rfl (a:=none) (b:=none);refine ⟨m,h1,funext λσ=>?_⟩
 exact wc LV [.m 4 (ig (uY (name:=name) hl)),.M 2 (eJ (l:=.str name::args) (j:=0) (by decide) rfl),.M 4 (eJ (l:=.str name::args) (j:=0) (by decide) rfl),.B 1 (congrArg (λo=>!o.isSome) h),.M 0 (eJ (l:=.str name::args) (j:=0) (by decide) rfl),.M 0 (eJ (l:=.str name::args) (j:=0) (by decide) rfl),.M 0 (itF h),.m 2 (ig (uY (name:=name) hl)),.m 0 (b8 (rj hf)),.B 2 (congrArg not (Ju (name:=name) e)),.S 0 (congrFun q σ)]
noncomputable def Jx(l:List D)(p:Nat×Nat):Prop:=p.1<10/\p.2<10/\∃la lb:List D,l[p.1]? =some (.tup la)/\l[p.2]? =some (.tup lb)/\la.length=lb.length/\la.length<=lim
noncomputable abbrev CG(ps:List (Nat×Nat)):List D:=ps.map λp=>.tup [.int p.1,.int p.2]
theorem t67:mT (up [uv 6,uv 7]) (.d (.tup [x,y])) C (r5 name args many form a b c d) σ= .ok .next (r5 name args many form a b (some (.d x)) (some (.d y))) σ:=rfl
theorem Wg(h:∀p∈ps,Jx (.str name::args) p):∀{c d:Option V},∃c' d',jf ((CG ps).map .d) (mT (up [uv 6,uv 7])) L188a.m C (r5 name args many form a b c d) σ= .ok .next (r5 name args many form a b c' d') σ:=by
 induction ps with
 |nil=>exact λ{c d}=>⟨c,d,rfl⟩
 |cons p ps ih=>
  intro c d;obtain ⟨h1,h2,la,lb,e1,e2,e3,e4⟩:=h p (.head _);rw[CG,cD,cD,kL (t67) (show L188a.m C (r5 name args many form a b (some (tI p.1)) (some (tI p.2))) σ= .ok .next (r5 name args many form a b (some (tI p.1)) (some (tI p.2))) σ from by
   exact ws [.M 0 (eJ (eQ h1 (by decide)) e1),.m 0 (ig e4),.M 0 (eJ (eQ h2 (by decide)) e2),.m 0 (ig (e3▸e4)),.B 1 (congrArg not ((beq_iff_eq.mpr (congrArg (λn:Nat=>(n:Int)) e3))))])]
  exact ih λq hq=>h q (.tail _ hq)
noncomputable def CH(N:Nat)(many:Int)(name:Tx)(args:List D):Prop:=∀form a b c d σ,(zz Qw).m (aQ TT N) (r5 name args many form a b c d) σ= .ok (.ret (tS [])) (r5 name args many form a b c d) σ
theorem FD{ps:List (Nat×Nat)}(h:kA jc name=some (.str form))(hn:name.length<=100)(hl:args.length<=50)(hf:form.length<=50)(e:(args.length==form.length)=true)(ft:pq N many form args true)(hp:(kA v9 name).getD (.tup [])= .tup (CG ps))(PR:∀p∈ps,Jx (.str name::args) p)
  (ht:CH N many name args):G8 (N+1) many (dO name args) []:=funext λσ=>by
 refine cps λP9 k9=>?_
 obtain ⟨a,b,q⟩:=Wf (form:=form) (c:=none) (d:=none) (args:=args) ft hn hl (pre:=[]) rfl (a:=none) (b:=none);obtain ⟨c,d,q2⟩:=Wg (C:=aQ TT N) (σ:=σ) (many:=many) (form:=form) (a:=a) (b:=b) PR (c:=none) (d:=none);refine k9 ?_;rw[(show cl (N+1) 188 [.d (dO name args),tI many] σ=_ from wh (ρ':=r5 name args many form a b c d) (σ':=σ) LV (ws [.m 4 (ig (uY (name:=name) hl)),.M 2 (eJ (l:=.str name::args) (j:=0) (by decide) rfl),.M 4 (eJ (l:=.str name::args) (j:=0) (by decide) rfl),.B 1 (congrArg (λo=>!o.isSome) h),.M 0 (eJ (l:=.str name::args) (j:=0) (by decide) rfl),.M 0 (eJ (l:=.str name::args) (j:=0) (by decide) rfl),.M 0 (itF h),.m 2 (ig (uY (name:=name) hl)),.m 0 (b8 (rj hf)),.B 2 (congrArg not (Ju (name:=name) e)),.S 0 (congrFun q σ),.M 2 (congrArg ret hp),.S 0 q2])),ht];rfl
end
section
variable{args l r rows:List D}
noncomputable def AK(name:Tx):Bool:=!(name==tx "cumulative"||(name==tx "disjunctive"||(kW [.str (tx "max"),.str (tx "min")] (.str name)||(name==tx "table"||name==tx "regular"))))
theorem xo(h:AK name=true):CH N many name args:=λform a b c d σ=>by
 unfold AK at h;simp only [fw,ka] at h;obtain ⟨h1,h2,h3,h4,h5⟩:=h;exact ws [.B 1 h1,.B 1 h2,.B 2 h3,.B 1 h4,.B 1 h5]
theorem G_(l:List Int):EQ (l.map .int)=some l:=by
 induction l with
 |nil=>rfl
 |cons x l ih=>
  show (D.int x::l.map D.int).mapM (λd=>d.fu some none)=_
  rw[lM,(show (l.map D.int).mapM (λd=>d.fu some none)=some l from ih)];rfl
theorem Oe{l:List Int}(h:∀i∈l,0<=i):∃m:Int,decide (m<0)=false/\bMin [.d (.tup (l.map .int++[.int 0]))]=ret (.int m):=by
 cases hm:(l++[0]).min? with
 |none=>rw [List.min?_eq_none_iff] at hm;cases l<;>cases hm
 |some m=>
  refine ⟨m,decide_eq_false (eK.mpr ?_),?_⟩
  ·rcases bf.mp (List.min?_mem hm) with q|q
   ·exact h m q
   ·exact A1 (aA.mp q).symm
  ·show M.opt ((EQ (l.map D.int++[D.int 0])).bind _)=_;simp only [(by rw[aH];rfl:l.map D.int++[D.int 0]=(l++[0]).map .int),G_,Option.bind_some,hm];rfl
noncomputable def Mi(x:D):Prop:=∃l:List Int,x= .tup (l.map .int)/\(∀i∈l,0<=i)/\l.length<=100
noncomputable def yx(h:l.length+r.length<=lim):Fa (M V):=fq (l:=vAdd (.d (.tup l)) (.d (.tup r))) (r:=ret (.tup (l++r))) (if_pos h)
theorem Jy(e1:vItem (.d (dO (tx "cumulative") args)) (tI 2)=ret x)(e2:vItem (.d (dO (tx "cumulative") args)) (tI 3)=ret y)(hx:Mi x)(hy:Mi y):CH N many (tx "cumulative") args:=λform a b c d σ=>by
 refine cps λP9 k9=>?_
 obtain ⟨l,rfl,h1,h2⟩:=hx;obtain ⟨r,rfl,h3,h4⟩:=hy;obtain ⟨m,hm,em⟩:=Oe (λi hi=>(bf.mp hi).elim (h1 i) (h3 i))
 rw[aH] at em;refine k9 ?_;exact ws [.M 2 e1,.M 0 e2,.m 0 (yx (ac (by rw[af,af];exact be h2 h4:(l.map D.int).length+(r.map D.int).length<=200) (aa rfl))),.m 1 (yx (r:=[.int 0]) (by rw[ae];exact ac (aw (by rw[af,af];exact be h2 h4:(l.map D.int).length+(r.map D.int).length<=200)) (aa rfl))),.M 0 em,.B 1 hm]
theorem Jz(e1:vItem (.d (dO (tx "disjunctive") args)) (tI 2)=ret x)(hx:Mi x):CH N many (tx "disjunctive") args:=λform a b c d σ=>by
 refine cps λP9 k9=>?_
 obtain ⟨l,rfl,h1,h2⟩:=hx;obtain ⟨m,hm,em⟩:=Oe h1;exact k9 (ws [.M 4 e1,.m 1 (yx (l:=l.map .int) (r:=[.int 0]) (by rw[af];exact ac (aw h2) (aa rfl))),.M 0 em,.B 1 hm])
theorem JA(hn:name=tx "max"\/name=tx "min")(e1:vItem (.d (dO name args)) (tI 1)=ret (.tup (x::l)))(hl:(x::l).length<=lim):CH N many name args:=λform a b c d σ=>by
 rcases hn with rfl|rfl
 ·exact ws [.M 7 e1,.m 0 (ig hl)]
 ·exact ws [.M 7 e1,.m 0 (ig hl)]
theorem JB(e1:vItem (.d (dO (tx "table") args)) (tI 1)=ret (.tup l))(e2:vItem (.d (dO (tx "table") args)) (tI 2)=ret (.tup rows))(h1:l.length<=lim)(h2:rows.length<=lim)(h3:∀x∈rows,∃r:List D,x= .tup r/\r.length=l.length):CH N many (tx "table") args:=λform a b c d σ=>by
 have cc:=ce (C:=aQ TT N) (σ:=σ) (f:=λx=>.bool ((λ_:D=>true) x)) (i:=iE (x2 vItem (xl 0) (xi 2))) (e:=xe (t2 vEq (xf bLen [xl 0]) (xf bLen [x2 vItem (xl 1) (xi 1)]))) (cap:=[none,some 0]) (o:=none) (r:=[some (.d (dO (tx "table") args))]) (ρ:=r5 (tx "table") args many form a b c d)
  (we [.M 0 e2]) rfl (λx hx=>by
   obtain ⟨r,rfl,hr⟩:=h3 x hx;exact we [.m 0 (ig (hr▸h1)),.M 0 e1,.m 0 (ig h1),.B 1 ((beq_iff_eq.mpr (congrArg (λn:Nat=>(n:Int)) hr)))]) h2
 exact ws [.V 9 cc,.m 0 (G7 rows λU=>true),.B 1 (all_true (l:=rows))]
theorem JC(h:cl N 183 [.d (dO (tx "regular") args)]=ret (.str [])):CH N many (tx "regular") args:=λform a b c d σ=>ws [.M 11 h]
end
noncomputable abbrev fY:List (Tx×Tx):=[(tx "linear_le",tx "NXn"),(tx "linear_eq",tx "NXn"),(tx "linear_ne",tx "NXn"),(tx "times",tx "xxx"),(tx "div",tx "xxx"),(tx "mod",tx "xxx"),(tx "abs",tx "xx"),(tx "max",tx "Xx"),(tx "min",tx "Xx"),(tx "element",tx "xXx"),(tx "element_of",tx "xNx"),(tx "table",tx "XR"),(tx "all_different",tx "Xs"),(tx "count",tx "Xnx"),(tx "nvalue",tx "Xx"),(tx "cardinality",tx "XNNN"),(tx "cumulative",tx "XPPn"),(tx "disjunctive",tx "XP"),(tx "circuit",tx "X"),(tx "inverse",tx "XX"),(tx "regular",tx "Xm"),(tx "lex_le",tx "XX"),(tx "lex_lt",tx "XX"),(tx "increasing",tx "X"),(tx "precede",tx "nnX"),(tx "clause",tx "BB"),(tx "and",tx "Bb"),(tx "or",tx "Bb"),(tx "xor",tx "bbb"),(tx "reif",tx "bt"),(tx "imp",tx "bt")]
noncomputable abbrev j5(l:List Int):D:=.tup (l.map .int)
noncomputable def In(lo hi:Int)(l:List Int):Prop:=∀i∈l,lo<=i/\i<hi
noncomputable abbrev nLe:Tx:=tx "linear_le"
noncomputable abbrev nEq:Tx:=tx "linear_eq"
noncomputable abbrev nNe:Tx:=tx "linear_ne"
noncomputable def Q1(s:Tx):Prop:=s=nLe\/s=nEq\/s=nNe
set_option genCtorIdx true in
inductive Lt where
 |x|b|X|B|n|N|P|R|s|m|t
noncomputable def eY(c:Nat):Lt:=if c=120 then .x else if c=98 then .b else if c=88 then .X else if c=66 then .B else if c=110 then .n else if c=78 then .N else if c=80 then .P else if c=82 then .R else if c=115 then .s else if c=109 then .m else .t
noncomputable def p6(many:Int)(n:Nat)(as:List D):Lt->Prop
 | .x=>∃i:Int,as=[.int i]/\0<=i/\i<many
 | .b=>∃i:Int,as=[.int i]/\0<=i/\i<2
 | .X=>∃l,as=[j5 l]/\l.length=n/\In 0 many l
 | .B=>∃l,as=[j5 l]/\l.length<=2/\In 0 2 l
 | .n=>∃i:Int,as=[.int i]/\ -4<=i/\i<5
 | .N=>∃l,as=[j5 l]/\l.length=n/\In (-4) 5 l
 | .P=>∃l,as=[j5 l]/\l.length=n/\In 0 9 l
 | .R=>∃ls:List (List Int),as=[.tup (ls.map j5)]/\ls.length<=2/\∀l∈ls,l.length=n/\In (-4) 5 l
 | .s=>∃s,as=[.str s]/\(s=tx "bounds"\/s=tx "values")
 | .m=>∃r1 r2 f i,as=[.int 2,.int 2,.tup [j5 r1,j5 r2],.int i,j5 f]/\r1.length=2/\r2.length=2/\In 0 3 r1/\In 0 3 r2/\1<=i/\i<3/\f.length<=1/\In 1 3 f
 | .t=>∃s l r i,as=[dO s [j5 l,j5 r,.int i]]/\Q1 s/\l.length=n/\r.length=n/\In (-4) 5 l/\In 0 many r/\ -4<=i/\i<5
noncomputable def ef(many:Int)(n:Nat):List Lt->List D->Prop
 |[],as=>as=[]
 |c::cs,as=>∃a b,as=a++b/\p6 many n a c/\ef many n cs b
noncomputable def LT(many:Int)(d:D):Prop:=∃p∈fY,∃n:Nat,(1<=n/\n<=2)/\∃as,ef many n (p.2.map eY) as/\d=dO p.1 as
noncomputable def expand:Lt->Tx
 | .x| .b=>[120]
 | .X| .B=>[88]
 | .n=>[110]
 | .N| .P=>[78]
 | .R=>[82]
 | .s=>[115]
 | .m=>[110,110,82,110,78]
 | .t=>[116]
section
variable{n N:Nat}{σ:Store}{C:nj}{ρ:Env}{many:Int}{name form cs ds:Tx}{args xs ys:List D}{a b c d:Option V}{l:List Int}{q:Bool}
theorem AL{x:D}(h:x∈l.map D.int):Kv x=true:=by
 obtain ⟨i,U,rfl⟩:=br.mp h;rfl
theorem Wh:(l.map D.int).all AG=true:=aJ.mpr λx h=>by
 obtain ⟨i,U,rfl⟩:=br.mp h;rfl
theorem Ec{i:Int}(h0:0<=i)(h1:i<many):AH many (.int i)=true:=by
 show (decide _&&decide _)=true;rw[decide_eq_true h0,decide_eq_true h1];rfl
theorem Wj(h:In 0 many l):(l.map D.int).all (AH many)=true:=aJ.mpr λx hx=>by
 obtain ⟨i,hi,rfl⟩:=br.mp hx;exact Ec (h i hi).1 (h i hi).2
theorem pq.XZ(h:pq N many cs xs true)(h2:pq N many ds ys q):pq N many (cs++ds) (xs++ys) q:=by
 generalize hb:true=b at h
 induction h with
 |nil=>exact h2
 |ok f U ih=>exact .ok f (ih hb)
 |bad U=>cases hb
theorem pq.one{c:Nat}{x:D}(h:Bh N many c x true):pq N many [c] [x] true:=.ok h .nil
theorem mx{k:Nat}(h:l.length<=k)(hk:k<=lim:=by decide):(l.map D.int).length<=lim:=by rw[af];exact ac h hk
theorem fX{k:Nat}(h:l.length<=k)(hi:In 0 many l)(hk:k<=lim:=by decide):Bh (N+3) many 88 (j5 l) true:=by
 have:=Ob (n:=N) (many:=many) (mx h hk) (λx hx=>AL hx)
 rwa [Wj hi] at this
theorem fN{k:Nat}(h:l.length<=k)(hk:k<=lim:=by decide):Bh (N+3) many 78 (j5 l) true:=by
 have:=V' (n:=N) (many:=many) (mx h hk) (λx hx=>AL hx)
 rwa [Wh] at this
theorem CJ(h:Q1 name):kA jc name=some (.str (tx "NXn"))/\(kA v9 name).getD (.tup [])= .tup (CG [(1,2)])/\AK name=true/\kW Wa (.str name)=true/\name.length<=100:=by
 rcases h with rfl|rfl|rfl<;>exact ⟨by kernel_rfl,by kernel_rfl,rfl,rfl,aa (rfl)⟩
theorem JD{r:List Int}{i:Int}(h:Q1 name)(h1:l.length=r.length)(h2:r.length<=2)(h3:In 0 many r):G8 (N+4) many (dO name [j5 l,j5 r,.int i]) []:=by
 refine cps λP9 k9=>?_
 obtain ⟨e1,e2,e3, -,hl⟩:=CJ h;refine k9 ?_;refine FD e1 hl (show 3<=50 by decide) (aa (rfl)) (rfl) (.ok (fN (k:=2) (h1▸h2)) (.ok (fX (k:=2) h2 h3) (.ok (zp rfl) .nil))) e2 (λp hp=>?_) (xo e3)
 rcases aA.mp hp with rfl
 exact ⟨by decide,by decide,_,_,rfl,rfl,by rw[af,af,h1],mx (h1▸h2)⟩
theorem JE{k:Nat}(h:l.length<=k)(hk:k<=lim:=by decide):∃r:List D,j5 l= .tup r/\r.length<=lim/\(∀y∈r,Kv y=true)/\r.all AG=true:=⟨_,rfl,mx h hk,λU=>AL,Wh⟩
theorem JF{c:Lt}{as:List D}(h:p6 many n as c)(hn:n<=2)(hm:2<=many):pq (N+5) many (expand c) as true:=by
 have X:∀{i:Int},0<=i->i<many->Bh (N+5) many 120 (.int i) true:=λ{i} h0 h1=>by
  have:=Js (n:=N+2) (many:=many) (x:=.int i) rfl
  rwa [Ec h0 h1] at this
 cases c with
 |x=>obtain ⟨i,rfl,h0,h1⟩:=h;exact .one (X h0 h1)
 |b=>obtain ⟨i,rfl,h0,h1⟩:=h;exact .one (X h0 (bL h1 hm))
 |X=>obtain ⟨l,rfl,h0,h1⟩:=h;exact .one (fX (h0▸hn) h1)
 |B=>obtain ⟨l,rfl,h0,h1⟩:=h;exact .one (fX h0 λi hi=>⟨(h1 i hi).1,bL (h1 i hi).2 hm⟩)
 |n=>obtain ⟨i,rfl,h0,h1⟩:=h;exact .one (zp rfl)
 |N=>obtain ⟨l,rfl,h0,h1⟩:=h;exact .one (fN (h0▸hn))
 |P=>obtain ⟨l,rfl,h0,h1⟩:=h;exact .one (fN (h0▸hn))
 |R=>
  obtain ⟨ls,rfl,h0,h1⟩:=h;refine .one (Oc (by rw[af];exact ac h0 (by decide)) λx hx=>?_)
  obtain ⟨l,hl,rfl⟩:=br.mp hx;exact JE ((h1 l hl).1▸hn)
 |s=>obtain ⟨s,rfl,h⟩:=h;exact .one (V_ h)
 |m=>
  obtain ⟨r1,r2,f,i,rfl,h1,h2,h3,h4,h5,h6,h7,h8⟩:=h;refine .ok (zp rfl) (.ok (zp rfl) (.ok (Oc (show (0+1+1<=lim) by decide) λx hx=>?_) (.ok (zp rfl) (.ok (fN (k:=2) (bp h7)) .nil))))
  rcases aN.mp hx with rfl|hx
  ·exact JE (aW h1)
  ·rw[aA.mp hx];exact JE (aW h2)
 |t=>obtain ⟨s,l,r,i,rfl,h0,h1,h2,h3,h4,h5,h6⟩:=h;exact .one (Wb (CJ h0).2.2.2.1 (show (0+1+1+1+1<=lim) by decide) (JD h0 (h1.trans h2.symm) (h2▸hn) h4))
theorem Mj{ls:List Lt}(hn:n<=2)(hm:2<=many)(h:ef many n ls xs):pq (N+5) many (ls.flatMap expand) xs true:=by
 induction ls generalizing xs with
 |nil=>cases h;exact .nil
 |cons c ls ih=>
  obtain ⟨a,b,rfl,h1,h2⟩:=h;exact (JF h1 hn hm).XZ (ih h2)
end
section
variable{n N:Nat}{σ:Store}{C:nj}{o p:Option V}{l L f:List Int}{i a b a1 a2 b1 b2:Int}
noncomputable abbrev Wk:Tx:=tx "regular"
theorem JG(h:l.length=2):∃a b,l=[a,b]:=by
 match l,h with
 |[a,b],_=>exact ⟨a,b,rfl⟩
noncomputable abbrev Q2(a:Int):Prop:=0<=a/\a<3
noncomputable abbrev mB:XE:=xe (T_ vLe vLe (xi 0) (xl 1) (xl 2))
theorem in1(h:Q2 a):bE (xR bTrue) mB C [o,some (tI a),some (tI 2)] σ= .ok ([o,some (tI a),some (tI 2)],[.bool true]) σ:=by
 show ((mB.m C _ σ).bind _)=_;rw[show mB.m C [o,some (tI a),some (tI 2)] σ= .ok (.d (.bool true)) σ from we [.B 1 (decide_eq_true h.1),.B 1 ((decide_eq_true (iU.mp h.2):decide (a<=2)=true))]];rfl
theorem in2(ha:Q2 a)(hb:Q2 b):K183a C [some (.d (j5 [a,b])),p,some (tI 2)] σ= .ok ([some (.d (j5 [a,b])),some (tI b),some (tI 2)],[.bool true,.bool true]) σ:=by
 show (bE (xR bTrue) mB C [some (.d (j5 [a,b])),some (tI a),some (tI 2)] σ).bind _=_;rw[in1 ha];show Res.bind ((bE (xR bTrue) mB C [some (.d (j5 [a,b])),some (tI b),some (tI 2)] σ).bind _) _=_;rw[in1 hb];rfl
noncomputable abbrev Wl(L r1 r2 f:List Int)(i:Int):Env:=[some (.d (dO Wk [j5 L,.int 2,.int 2,.tup [j5 r1,j5 r2],.int i,j5 f])),some (tI 2),some (tI 2),some (.d (.tup [j5 r1,j5 r2])),some (tI i),some (.d (j5 f))]
theorem in4(h1:Q2 a1)(h2:Q2 b1)(h3:Q2 a2)(h4:Q2 b2):s6 (iE (xl 3)).m (mT (uv 0)) K183a [none,none,some 1] C (Wl L [a1,b1] [a2,b2] f i) σ= .ok (.d (.list [.bool true,.bool true,.bool true,.bool true])) σ:=by
 show ri ((K183a C [some (.d (j5 [a1,b1])),none,some (tI 2)] σ).bind _)=_;rw[in2 h1 h2];show ri (Res.bind ((K183a C [some (.d (j5 [a2,b2])),some (tI b1),some (tI 2)] σ).bind _) _)=_;rw[in2 h3 h4];rfl
theorem aaM(n:Nat){r1 r2:List Int}(h1:r1.length=2)(h2:r2.length=2)(h3:In 0 3 r1)(h4:In 0 3 r2)(h5:1<=i)(h6:i<3)(h7:f.length<=1)(h8:In 1 3 f):cl (n+1) 183 [.d (dO Wk [j5 L,.int 2,.int 2,.tup [j5 r1,j5 r2],.int i,j5 f])]=ret (.str []):=funext λσ=>by
 obtain ⟨a1,b1,rfl⟩:=JG h1;obtain ⟨a2,b2,rfl⟩:=JG h2;have hl:(D.int i::f.map D.int).length<=2:=by rw[bP,af];exact aw h7
 have c3:=ce (C:=aQ TT n) (σ:=σ) (f:=λx=>.bool ((λ_:D=>true) x)) (l:=D.int i::f.map D.int) (i:=iE (x2 vAdd (xp [xl 4]) (xl 5))) (e:=xe (T_ vLe vLe (xi 1) (xl 0) (xl 1))) (cap:=[none,some 1]) (o:=none) (r:=[some (tI 2)]) (ρ:=Wl L [a1,b1] [a2,b2] f i)
  (we [.m 1 (yx (l:=[.int i]) (r:=f.map .int) (by rw[bI];exact ac hl (show 2<=lim from aa rfl)))]) rfl (λx hx=>by
   obtain ⟨j,rfl,q1,q2⟩:∃j:Int,x= .int j/\1<=j/\j<3:=by
    rcases aN.mp hx with rfl|hx
    ·exact ⟨i,rfl,h5,h6⟩
    ·obtain ⟨j,hj,rfl⟩:=br.mp hx;exact ⟨j,rfl,h8 j hj⟩
   exact we [.B 1 (decide_eq_true q1),.B 1 ((decide_eq_true (iU.mp q2):decide (j<=2)=true))]) (ac hl (show 2<=lim from aa rfl))
 exact wc ZU [.V 8 (in4 (L:=L) (f:=f) (i:=i) (C:=aQ TT n) (σ:=σ) (h3 _ (.head _)) (h3 _ (.tail _ (.head _))) (h4 _ (.head _)) (h4 _ (.tail _ (.head _)))),.V 3 c3,.m 0 (G7 (D.int i::f.map D.int) λU=>true),.B 1 (all_true (l:=D.int i::f.map D.int))]
end
section
variable{n N:Nat}{σ:Store}{C:nj}{ρ:Env}{many:Int}{name form cs ds:Tx}{as xs ys:List D}{l:List Int}{c:Nat}{x d:D}
noncomputable def Ed:Lt->Bool
 | .m=>false
 |_=>true
theorem p6.one{c:Lt}(h:p6 many n as c)(hc:Ed c=true):∃x,as=[x]:=by
 cases c with
 |m=>cases hc
 |s=>obtain ⟨s,e,U⟩:=h;exact ⟨_,e⟩
 |t=>obtain ⟨s,l,r,i,e,U⟩:=h;exact ⟨_,e⟩
 |_=>obtain ⟨i,e,U⟩:=h;exact ⟨_,e⟩
theorem xq{ls:List Lt}(h:ef many n ls as){k:Nat}(hk:(ls.take k).all Ed=true){c:Lt}(hc:ls[k]? =some c)(h1:Ed c=true):∃x,as[k]? =some x/\p6 many n [x] c:=by
 induction ls generalizing as k with
 |nil=>cases hc
 |cons c' ls ih=>
  obtain ⟨a,b,rfl,h2,h3⟩:=h;cases k with
  |zero=>
   obtain rfl:=aF hc;obtain ⟨x,rfl⟩:=h2.one h1;exact ⟨x,rfl,h2⟩
  |succ k=>
   refine (aj.mp hk).elim λq1 q2=>?_
   obtain ⟨x,rfl⟩:=h2.one q1;exact ih h3 q2 hc
noncomputable def Wm:Lt->Bool
 | .X| .N| .P=>true
 |_=>false
theorem Q3{c:Lt}(h:p6 many n [x] c)(hc:Wm c=true):∃l:List Int,x=j5 l/\l.length=n:=by
 cases c<;>first|exact (λ⟨l,e,q,_⟩=>⟨l,(c6 e).1,q⟩:∀{P:List Int->Prop},(∃l,[x]=[j5 l]/\l.length=n/\P l)->∃l:List Int,x=j5 l/\l.length=n) h|cases hc
noncomputable def Ee(s:Tx):List (Nat×Nat):=if kW [.str nLe,.str nEq,.str nNe,.str (tx "disjunctive"),.str (tx "inverse")] (.str s) then [(1,2)] else if s=tx "cardinality" then [(2,3),(2,4)] else if s=tx "cumulative" then [(1,2),(1,3)] else []
theorem JH:∀p∈fY,(kA v9 p.1).getD (.tup [])= .tup (CG (Ee p.1)):=by
 repeat (first|exact List.forall_mem_nil _|refine List.forall_mem_cons.mpr ⟨rfl,?_⟩)
noncomputable def rowAt(f:Tx)(j:Nat):Bool:=match j with
 |0=>false
 |j+1=>(f.map eY)[j]?.any Wm&&(f.map eY).all Ed
noncomputable def Ef(p:Tx×Tx):Bool:=AK p.1||(p==(tx "cumulative",tx "XPPn")||(p==(tx "disjunctive",tx "XP")||(((p.1==tx "max"||p.1==tx "min")&&p.2==tx "Xx")||(p==(tx "table",tx "XR")||p==(tx "regular",tx "Xm")))))
noncomputable def JI(p:Tx×Tx):Bool:=(match kA jc p.1 with|some (.str f)=>f==(p.2.map eY).flatMap expand|_=>false)&&(decide (p.1.length<=20)&&(((p.2.map eY).flatMap expand).length.ble 10&&((Ee p.1).all (λq=>b7 q.1 4&&(b7 q.2 4&&(rowAt p.2 q.1&&rowAt p.2 q.2)))&&Ef p)))
theorem JJ:fY.all JI=true:=rfl
theorem jK{ls:List Lt}(h:ef many n ls as):as.length=(ls.flatMap expand).length:=by
 induction ls generalizing as with
 |nil=>cases h;rfl
 |cons c ls ih=>
  obtain ⟨a,b,rfl,h1,h2⟩:=h;simp only [ae,tJ,ae,ih h2];refine congrArg (·+_) ?_;cases c with
  |m=>obtain ⟨r1,r2,f,i,rfl,U⟩:=h1;rfl
  |_=>obtain ⟨x,rfl⟩:=h1.one rfl;rfl
theorem oA{k:Nat}(hk:k<900)(h:as[k]? =some x):vItem (.d (dO name as)) (tI (k+1:Nat))=ret x:=eJ (bk (uH hk) (aa rfl)) h
theorem Wn{k:Nat}(h:k<=2):k<=100:=ac h (aa rfl)
theorem Mk{k:Nat}(h:k<=2):k<=lim:=ac h (aa rfl)
theorem JK{j:Nat}(h:ef many n (form.map eY) as)(hj:rowAt form j=true):∃l:List Int,(D.str name::as)[j]? =some (j5 l)/\l.length=n:=by
 refine cps λP9 k9=>?_
 cases j with
 |zero=>cases hj
 |succ j=>
  obtain ⟨h1,h2⟩:=aj.mp hj;cases hc:(form.map eY)[j]? with
  |none=>rw [hc] at h1;cases h1
  |some c=>
   rw[hc] at h1;obtain ⟨x,e,ha⟩:=xq h (aJ.mpr λc hc=>aJ.mp h2 c (cU hc)) hc (aJ.mp h2 c (bM hc))
   obtain ⟨l,rfl,hl⟩:=Q3 ha h1;exact k9 ⟨l,e,hl⟩
theorem Ml{α:Type}{a b:α}(h:[a]=[b]):a=b:=(c6 h).1
theorem Eg(h:p6 many n [x] .P)(hn:n<=2):Mi x:=by
 refine h.elim λl z0=>z0.elim λe z1=>z1.elim λa b=>?_
 exact ⟨l,Ml e,λi hi=>(b i hi).1,Wn (a▸hn)⟩
theorem Mm(ok:Ef (name,form)=true)(h:ef many n (form.map eY) as)(hn1:1<=n)(Mn:n<=2):CH (N+1) many name as:=by
 rcases cw.mp ok with e|ok
 ·exact xo e
 rcases cw.mp ok with e|ok
 ·obtain ⟨rfl,rfl⟩:=cS (beq_iff_eq.mp e);obtain ⟨x,f1,g1⟩:=xq h (k:=1) (rfl) (c:=.P) (rfl) rfl;exact (xq h (k:=2) (rfl) (c:=.P) (rfl) rfl).elim λy z0=>z0.elim λf2 g2=>Jy (oA (by decide) f1) (oA (by decide) f2) (Eg g1 Mn) (Eg g2 Mn)
 rcases cw.mp ok with e|ok
 ·obtain ⟨rfl,rfl⟩:=cS (beq_iff_eq.mp e);exact (xq h (k:=1) (rfl) (c:=.P) (rfl) rfl).elim λx z0=>z0.elim λf1 g1=>Jz (oA (by decide) f1) (Eg g1 Mn)
 rcases cw.mp ok with e|ok
 ·refine (aj.mp e).elim λe1 e2=>?_
  obtain rfl:=beq_iff_eq.mp e2;obtain ⟨x,f1,l,e,a,b⟩:=xq h (k:=0) rfl (c:=.X) (rfl) rfl;obtain rfl:=Ml e;cases l with
  |nil=>exact absurd (a▸hn1) (by decide)
  |cons i l=>exact JA ((cw.mp e1).imp beq_iff_eq.mp beq_iff_eq.mp) (oA (by decide) f1) (show ((i::l).map D.int).length<=lim from mx (a▸Mn))
 rcases cw.mp ok with e|e
 ·obtain ⟨rfl,rfl⟩:=cS (beq_iff_eq.mp e);refine cps λP9 k9=>?_
  obtain ⟨x,f1,l,e,a,b⟩:=xq h (k:=0) rfl (c:=.X) (rfl) rfl;obtain ⟨y,f2,ls,e',u,v⟩:=xq h (k:=1) (rfl) (c:=.R) (rfl) rfl;obtain rfl:=Ml e;obtain rfl:=Ml e';refine k9 ?_;refine JB (oA (by decide) f1) (oA (by decide) f2) (mx (a▸Mn)) (by rw[af];exact Mk u) λx hx=>?_
  obtain ⟨l,hl,rfl⟩:=br.mp hx;exact ⟨_,rfl,by rw[af,af,a,(v l hl).1]⟩
 ·obtain ⟨rfl,rfl⟩:=cS (beq_iff_eq.mp e);obtain ⟨_,_,rfl,⟨l,rfl,_⟩,_,_,rfl,⟨r1,r2,f,i,rfl,a1,a2,a3,a4,a5,a6,a7,a8⟩,rfl⟩:ef many n [.X,.m] as:=h;exact JC (aaM N a1 a2 a3 a4 a5 a6 a7 a8)
noncomputable def Q4(name form:Tx):Prop:=(Ee name).all (λq=>b7 q.1 4&&(b7 q.2 4&&(rowAt form q.1&&rowAt form q.2)))=true
theorem FE{P:Prop}(hp:(name,form)∈fY)(k:kA jc name=some (.str ((form.map eY).flatMap expand))->name.length<=20->((form.map eY).flatMap expand).length<=10->Q4 name form->Ef (name,form)=true->P):P:=by
 have ok:=aJ.mp JJ _ hp;unfold JI at ok
 simp only [nP,decide_eq_true_eq] at ok;refine ok.elim λk1 z0=>z0.elim λk2 z1=>z1.elim λk4 z2=>z2.elim λk5 k6=>k ?_ k2 (aa k4) k5 k6
 cases hd:kA jc name with
 |none=>rw [hd] at k1;cases k1
 |some x=>
  rw[hd] at k1;cases x with
  |str f=>rw [beq_iff_eq.mp k1]
  |_=>cases k1
theorem Mo(hm:2<=many)(h:LT many d):G8 (N+6) many d []:=by
 obtain ⟨⟨name,form⟩,hp,n,⟨hn1,Mn⟩,as,h,rfl⟩:=h;apply FE hp;intro e1 k2 k4 k5 k6;refine FD e1 (ac k2 (aa rfl)) (by rw[jK h];exact ac k4 (by decide)) (ac k4 (by decide)) (beq_iff_eq.mpr (jK h)) (Mj Mn hm h) (JH _ hp) (λq hq=>?_) (Mm k6 h hn1 Mn)
 have k:=aJ.mp k5 q hq;simp only [nP] at k
 refine k.elim λq1 z0=>z0.elim λq2 z1=>z1.elim λq3 q4=>?_
 exact (JK (name:=name) h q3).elim λl z0=>z0.elim λh3 h4=>(JK (name:=name) h q4).elim λr z0=>z0.elim λh5 h6=>⟨bi (aa q1) (by decide),bi (aa q2) (by decide),_,_,h3,h5,by rw[af,af,h4,h6],mx (h4▸Mn)⟩
end
section
variable{n N:Nat}{many:Int}{name form:Tx}{as vs:List D}{d:D}{l r:List Int}
noncomputable def aaO(N:Nat)(d:D)(l:List Int):Prop:=pZ (N+1) d (l.map .int)/\l.length<=4/\In 0 2 l
noncomputable def TrL(N:Nat)(d:D):Prop:=∃l,aaO N d l
theorem Wo{d:D}{l:List Int}(h:pZ (N+1) d (l.map .int))(h1:l.length<=4)(h2:In 0 2 l):TrL N d:=⟨l,h,h1,h2⟩
theorem JL{lo hi:Int}(h:In lo hi l)(h':In lo hi r):In lo hi (l++r):=λi hi=>(bf.mp hi).elim (h i) (h' i)
theorem xv{lo hi:Int}:In lo hi []:=nofun
theorem oB{lo hi i:Int}(a:lo<=i)(b:i<hi)(h:In lo hi l):In lo hi (i::l):=λj hj=>by
 cases hj with
 |head=>exact ⟨a,b⟩
 |tail U q=>exact h j q
theorem Mp{a b:Nat}(h:l.length<=a)(h':r.length<=b)(e:a+b<=4:=by decide):(l++r).length<=4:=by rw[ae];exact ac (be h h') e
noncomputable def Of(h:(l++r).length<=4):Fa (M V):=fq (l:=vAdd (.d (j5 l)) (.d (j5 r))) (r:=ret (j5 (l++r))) ((if_pos (by rw[af,af,<-ae];exact ac h (aa rfl))).trans (by rw[j5,aH]))
theorem Q5(h:(l++r).length<=4):pZ (N+1) (dO (tx "clause") [j5 l,j5 r]) ((l++r).map .int):=funext λσ=>wc GV [.m 5 (Of h)]
theorem Q6{i:Int}(hn:name=tx "and"\/name=tx "or")(h:(l++[i]).length<=4):pZ (N+1) (dO name [j5 l,.int i]) ((l++[i]).map .int):=by
 rcases hn with rfl|rfl<;>exact funext λσ=>wc GV [.m 9 (Of h)]
theorem Q7{i j k:Int}:pZ (N+1) (dO (tx "xor") [.int i,.int j,.int k]) [.int i,.int j,.int k]:=funext λσ=>wc GV []
noncomputable def Og(s:Tx)(as:List D):Fa (M V):=fq (l:=vItem (.d (dO s as)) (tI 0)) (r:=ret (.str s)) (eJ (j:=0) (by decide) rfl)
theorem Q8{i:Int}(hn:name=tx "reif"\/name=tx "imp"):pZ (N+1) (dO name (.int i::as)) [.int i]:=by
 have e:vItem (.d (dO name (.int i::as))) (tI 1)=ret (.int i):=oA (aa rfl) rfl;rcases hn with rfl|rfl
 ·exact funext λσ=>wc GV [.m 0 (Og (tx "reif") (.int i::as)),.M 10 e]
 ·exact funext λσ=>wc GV [.m 0 (Og (tx "imp") (.int i::as)),.M 10 e]
noncomputable def plainT(name:Tx):Bool:=!(name==tx "clause"||(kW [.str (tx "and"),.str (tx "or")] (.str name)||(name==tx "xor"||kW [.str (tx "reif"),.str (tx "imp")] (.str name))))
theorem JM(h:plainT name=true):pZ (N+1) (dO name as) []:=funext λσ=>by
 unfold plainT at h;simp only [fw,ka] at h;exact h.elim λh1 z0=>z0.elim λh2 z1=>z1.elim λh3 h4=>wc GV [.m 0 (Og name as),.B 1 h1,.B 2 h2,.B 1 h3,.B 2 h4]
noncomputable def FF(p:Tx×Tx):Bool:=plainT p.1||(p==(tx "clause",tx "BB")||(((p.1==tx "and"||p.1==tx "or")&&p.2==tx "Bb")||(p==(tx "xor",tx "bbb")||((p.1==tx "reif"||p.1==tx "imp")&&p.2==tx "bt"))))
theorem JN:fY.all FF=true:=rfl
theorem or_eq{a b c:Tx}(h:(a==b||a==c)=true):a=b\/a=c:=(cw.mp h).imp beq_iff_eq.mp beq_iff_eq.mp
theorem Mq{a b:Bool}{P:Prop}(h:(a||b)=true)(h1:a=true->P)(h2:b=true->P):P:=(cw.mp h).elim h1 h2
section
variable{P:List D->Prop}{ls:List Lt}
theorem ef.nil(h:ef many n [] as)(k:P []):P as:=by cases h;exact k
theorem ef.b(h:ef many n (.b::ls) as)(k:∀(i:Int) as,0<=i->i<2->ef many n ls as->P (.int i::as)):P as:=by
 obtain ⟨U,U,rfl,⟨i,rfl,a,b⟩,h⟩:=h;exact k i _ a b h
theorem ef.B(h:ef many n (.B::ls) as)(k:∀l as,l.length<=2->In 0 2 l->ef many n ls as->P (j5 l::as)):P as:=by
 obtain ⟨U,U,rfl,⟨i,rfl,a,b⟩,h⟩:=h;exact k i _ a b h
end
noncomputable def Tr(N:Nat)(name:Tx)(as:List D):Prop:=TrL N (dO name as)
theorem Mr(e:FF (name,form)=true)(h:ef many n (form.map eY) as):Tr N name as:=by
 refine Mq e (λe=>Wo (JM e) (by decide) xv) λe=>Mq e (λe=>?_) λe=>Mq e (λe=>?_) λe=>Mq e (λe=>?_) λe=>?_
 ·obtain ⟨rfl,rfl⟩:=cS (beq_iff_eq.mp e);apply h.B;intro l _ a1 a2 h;apply h.B;intro r _ b1 b2 h;apply h.nil;exact Wo (Q5 (Mp a1 b1)) (Mp a1 b1) (JL a2 b2)
 ·refine (aj.mp e).elim λe f=>?_
  obtain rfl:=beq_iff_eq.mp f;apply h.B;intro l _ a1 a2 h;apply h.b;intro i _ b1 b2 h;apply h.nil;exact Wo (Q6 (or_eq e) (Mp a1 (ax 1))) (Mp a1 (ax 1)) (JL a2 (oB b1 b2 xv))
 ·obtain ⟨rfl,rfl⟩:=cS (beq_iff_eq.mp e);apply h.b;intro i _ a1 a2 h;apply h.b;intro j _ b1 b2 h;apply h.b;intro k _ c1 c2 h;apply h.nil;exact Wo (l:=[i,j,k]) Q7 (show 3<=4 by decide) (oB a1 a2 (oB b1 b2 (oB c1 c2 xv)))
 ·refine (aj.mp e).elim λe f=>?_
  obtain rfl:=beq_iff_eq.mp f;exact h.b λi U a1 a2 U=>Wo (l:=[i]) (Q8 (or_eq e)) (show 1<=4 by decide) (oB a1 a2 xv)
theorem Ha(h:LT many d):TrL N d:=by
 obtain ⟨p,hp,n, -,as,h,rfl⟩:=h;exact Mr (aJ.mp JN _ hp) h
noncomputable def Wp(vs:List D):Prop:=∃a b r,vs= .tup [a,CE]:: .tup [b,CE]::r
theorem Q9{i:Int}(hv:Wp vs)(h0:0<=i)(h1:i<2):Eb vs (.int i):=by
 obtain ⟨a,b,r,rfl⟩:=hv
 match i,h0,h1 with
 | .ofNat 0,_,_=>exact ⟨0,a,rfl,aa rfl,rfl⟩
 | .ofNat 1,_,_=>exact ⟨1,b,rfl,aa rfl,rfl⟩
 | .ofNat (j+2),_,q=>exact absurd (aP.mp q) (gJ.mpr (cK _ _))
theorem Wp.two(h:Wp vs):(2:Int)<=vs.length:=by
 obtain ⟨a,b,r,rfl⟩:=h;exact c_.mpr (cK 2 r.length)
theorem Ms(hv:Wp vs)(h:LT vs.length d):Good (N+6) vs d:=by
 refine (Ha h).elim λl z0=>z0.elim λh1 z1=>z1.elim λh2 h3=>⟨Mo hv.two h,_,h1,mx h2,λx hx=>?_⟩
 obtain ⟨i,hi,rfl⟩:=br.mp hx;exact Q9 hv (h3 i hi).1 (h3 i hi).2
end
section
variable{n N:Nat}{many:Int}{name form:Tx}{as bs:List D}{d:D}{l:List Int}{ls:List Lt}{c:Lt}
noncomputable def rm:Lt->Bool
 | .x| .b| .X=>true
 |_=>false
noncomputable def FG(many:Int):D->D
 | .tup l=>.tup (.int many::l.tail)
 |_=>.int many
class inductive uZ (many:Int):List Lt->List D->List D->Prop
 |soft {c:Lt} {ls:List Lt} {x:D} {as:List D}:rm c=true->uZ many (c::ls) (x::as) (FG many x::as)
 |Mt {c:Lt} {ls:List Lt} {x:D} {as bs:List D}:Ed c=true->uZ many ls as bs->uZ many (c::ls) (x::as) (x::bs)
inductive yy(many:Int)(name:Tx)(ls:List Lt)(as:List D):D->Prop
 |w0:yy many name ls as (dO (tx "nosuch") as)
 |w1:yy many name ls as (dO name as.dropLast)
 |w2:yy many name ls as (dO name (as++[.int 0]))
 |w3:yy many name ls as (dO name (.bool true::as.tail))
 |pl {bs:List D}:uZ many ls as bs->yy many name ls as (dO name bs)
 |el:ls=[.B,.B]->yy many name ls as (dO name (.tup [.int many]::as.tail))
theorem CK:AH many (.int many)=false:=by
 show (decide _&&decide (many<many))=false;rw[decide_eq_false (yG many),jk]
theorem CL:Bh (N+5) many 120 (.int many) false:=by
 have:=Js (n:=N+2) (many:=many) (x:=.int many) rfl
 rwa [CK] at this
theorem JO(hl:l.length<=4):Bh (N+5) many 88 (.tup (.int many::l.map .int)) false:=by
 have:=Ob (n:=N+2) (many:=many) (l:=.int many::l.map .int) (ac (aw (by rw[af];exact hl)) (aa rfl)) (λx hx=>by
  cases hx with
  |head=>rfl
  |tail U hx=>exact AL hx)
 rwa [mY,CK,xW] at this
theorem JP(hn:n<=2)(hm:2<=many)(h:ef many n ls as)(hb:uZ many ls as bs):pq (N+5) many (ls.flatMap expand) bs false:=by
 induction hb with
 |@soft c ls x as hs=>
  obtain ⟨a,b,e,h1,h2⟩:=h;cases c with
  |x=>obtain ⟨i,rfl,U⟩:=h1;cases e;exact .bad CL
  |b=>obtain ⟨i,rfl,U⟩:=h1;cases e;exact .bad CL
  |X=>
   obtain ⟨l,rfl,h3,U⟩:=h1;cases e;refine .bad ?_;show Bh _ _ _ (.tup (.int many::(l.map D.int).tail)) _;rw[<-m8];exact JO (ac (by rw[jW,h3];exact jO _ _) (ac hn (aa rfl)))
  |_=>cases hs
 |@Mt c ls x as bs hc U ih=>
  obtain ⟨a,b,e,h1,h2⟩:=h;obtain ⟨y,rfl⟩:=h1.one hc;cases e;exact (JF h1 hn hm).XZ (ih h2)
theorem JQ(hb:uZ many ls as bs):bs.length=as.length:=by
 induction hb with
 |soft=>rfl
 |Mt U J ih=>exact congrArg nL ih
noncomputable def FH:List Lt->Bool
 | .x::_| .b::_| .X::_| .B::_| .n::_| .N::_=>true
 |_=>false
theorem JR:fY.all (λp=>FH (p.2.map eY))=true:=rfl
theorem Hb(h:FH ls=true):pq (N+5) many (ls.flatMap expand) (.bool true::bs) false:=by
 have X:pq (N+5) many (120::ls.tail.flatMap expand) (.bool true::bs) false:=.bad (Js rfl);cases ls with
 |nil=>cases h
 |cons c ls=>cases c with
  |x=>exact X
  |b=>exact X
  |X=>exact (.bad Jt)
  |B=>exact (.bad Jt)
  |n=>exact .bad (zp rfl)
  |N=>exact .bad Q0
  |_=>cases h
theorem CM{x:D}(h:as≠[]):(x::as.tail).length=as.length:=by
 cases as with
 |nil=>exact absurd rfl h
 |cons=>rfl
theorem Eh(hm:2<=many)(hn:n<=2)(hp:(name,form)∈fY)(h:ef many n (form.map eY) as)(hb:yy many name (form.map eY) as d):pe (N+6) many d:=by
 have f1:=aJ.mp JR _ hp;apply FE hp
 intro e1 k2 k4 _ _;have el:=jK h;rw[<-el] at k4
 have ne:as≠[]:=λe=>by
  subst e;cases hf:form.map eY with
  |nil=>rw [hf] at f1;cases f1
  |cons c ls=>
   rw[hf] at el f1;cases c<;>first|cases el|cases f1
 generalize form.map eY=ls at*
 have al {k:Nat} h:k<=50:=ac h (ac k4 (by decide))
 have fit {bs:List D} h f:pe (N+6) many (dO name bs):=Jw e1 (ac k2 (show 20<=100 by decide)) (al (aW h)) (al (aW el.symm)) (beq_iff_eq.mpr (h.trans el)) f
 have len {bs:List D} h (q:bs.length≠as.length):pe (N+6) many (dO name bs):=Jv e1 (ac k2 (show 20<=100 by decide)) h (al (aW el.symm)) (beq_eq_false_iff_ne.mpr λe=>q (e.trans el.symm))
 cases hb with
 |w0=>exact G' (rfl) (al (ax _))
 |w1=>exact len (al (by rw[ke];exact jO _ _)) (by rw[ke];exact bT (sf (qV.mpr ne) u7))
 |w2=>exact len (by rw[ae];exact ac (aB k4 1) (by decide)) (by rw[ae];exact jU _)
 |w3=>exact fit (CM ne) (Hb f1)
 |pl q=>exact fit (JQ q) (JP hn hm h q)
 |el q=>subst q;exact fit (CM ne) (.bad (JO (l:=[]) (by decide)))
end
section
variable{σ g:Store}{j k:Nat}{l r:List D}
theorem k_get:(σ++g)[σ.length+j]? =g[j]? :=by rw[aY (ak _ _),eC]
theorem k_set:(σ++g).set (σ.length+j) o=σ++g.set j o:=by rw[jE _ _ (ak _ _),eC]
theorem k_lv(h:g[j]? =some (cx l)):ec (σ++g) (σ.length+j)=some (l.map .d):=by
 unfold ec;rw[k_get,h];rfl
noncomputable def ym(σ:Store)(h:g[j]? =some (cx l)):Fa (Res V):=fq (tyL (σ:=σ++g) (k:=σ.length+j) (k_get.trans h))
theorem JS(h:g[j]? =some (cx l))(e:f (σ++g) (l.map .d)=R):ia (σ.length+j) f (σ++g)=R:=by
 unfold ia;rw[k_lv h];exact e
noncomputable def AN(σ:Store)(x:D)(h:g[j]? =some (cx l))(hl:l.length<=lim):Fa (Res V):=fq (l:=mAppend (.obj (σ.length+j)) [.d x] (σ++g)) (r:=.ok (.d .none) (σ++g.set j (cx (l++[x])))) (by
 show ia _ (λσ l=>if l.length<=lim then .ok (.d .none) (sR σ _ (l++[.d x])) else .stuck) (σ++g)=_
 exact JS h ((if_pos (by rw[af];exact hl)).trans (by rw[sR,k_set,cx,aH];rfl)))
noncomputable def aaR(σ:Store)(h:g[j]? =some (cx l))(hl:l.length+r.length<=lim):Fa (Res V):=fq (l:=mExtend (.obj (σ.length+j)) [.d (.tup r)] (σ++g)) (r:=.ok (.d .none) (σ++g.set j (cx (l++r)))) (by
 show ia _ (λσ l=>if l.length+r.length<=lim then .ok (.d .none) (sR σ _ (l++r.map .d)) else .stuck) (σ++g)=_
 exact JS h ((if_pos (by rw[af];exact hl)).trans (by rw[sR,k_set,cx,aH])))
noncomputable def Wq(σ:Store)(h:g[j]? =some (cx (l++[x])))(hl:l.length+1<=lim):Fa (Res V):=fq (l:=mPop (.obj (σ.length+j)) [] (σ++g)) (r:=.ok (.d x) (σ++g.set j (cx l))) (by
 show ia _ (λσ l=>l.getLast?.elim .stuck λx=>if l.length<=lim then .ok x (sR σ _ l.dropLast) else .stuck) (σ++g)=_
 refine JS h ?_;rw[aH,List.map_singleton,qe];exact (if_pos (by rw[ae,af];exact hl)).trans (by rw[sR,k_set,qf]))
noncomputable def JT(σ:Store)(h:g[j]? =some (cx l))(hl:l.length<=lim):Fa (Res V):=fq (l:=bLen [.obj (σ.length+j)] (σ++g)) (r:=.ok (tI l.length) (σ++g)) (by
 show qu _ _ _=_;unfold qu;rw[k_lv h];exact (congrFun (if_pos (by rw[af];exact hl)) _).trans (by rw[af];rfl))
end
section
inductive Pc(many:Int):D->List D->Prop
 |text {s:Tx}:Pc many (.tup [.str (tx "text"),.str s]) []
 |int {i:Int}:AH many (.int i)=true->Pc many (.tup [.str (tx "int"),.int i]) []
 |bool {i:Int}:AH many (.int i)=true->Pc many (.tup [.str (tx "bool"),.int i]) []
 |list {x:D}:Pc many (.tup [.str (tx "list"),x]) [x]
 |R0 {i:Int} {x y:D}:AH many (.int i)=true->Pc many (.tup [.str (tx "if"),.int i,x,y]) [x,y]
theorem Ei{l:List D}(h:l.length<=100)(hk:b7 (100+k) lim=true:=by kernel_rfl):l.length+k<=lim:=ac (aB h k) (aa hk)
theorem aaS(h:Pc many p u)(hl:W.length<=100):cl (N+3) 207 [.d p,tI many,.obj σ.length] (σ++[cx W])= .ok (tS []) (σ++[cx (W++u)]):=by
 have e:=λ{i:Int} (q:AH many (.int i)=true)=>(Mf N rfl).trans (congrArg (λb=>ret (.bool b)) q)
 cases h with
 |text=>rw [au];exact wc Jb []
 |int h=>rw [au];exact wc Jb [.M 18 (e h)]
 |bool h=>rw [au];exact wc Jb [.M 18 (e h)]
 |@list x=>exact wc Jb [.v 20 (ym σ (g:=[cx W]) (j:=0) rfl),.v 1 (AN σ x (g:=[cx W]) (j:=0) rfl (Ei (k:=0) hl))]
 |@R0 i x y h=>exact wc Jb [.M 24 (e h),.v 2 (ym σ (g:=[cx W]) (j:=0) rfl),.v 1 (aaR σ (g:=[cx W]) (j:=0) (r:=[x,y]) rfl (Ei (k:=2) hl))]
class inductive Hc (many:Int):List D->List D->Prop
 |nil:Hc many [] []
 |cons {p:D} {ps u v:List D}:Pc many p u->Hc many ps v->Hc many (p::ps) (u++v)
class inductive Wt (many:Int):List D->Prop
 |nil:Wt many []
 |pop {W ps u:List D}:Hc many ps u->(u.reverse++W).length<=100->Wt many (u.reverse++W)->Wt many (.tup ps::W)
noncomputable abbrev Hd(sh:D)(many:Int)(k:Nat)(a b c:Option V):Env:=[some (.d sh),some (tI many),some (.obj k),a,b,c]
theorem aaT(h:Hc many ps u):∀{W:List D} {b c:Option V},(W++u).length<=100->∃b' c',jf (ps.map .d) (mT (uv 4)) L214.m (aQ TT (N+3)) (Hd sh many σ.length a b c) (σ++[cx W])= .ok .next (Hd sh many σ.length a b' c') (σ++[cx (W++u)]):=by
 induction h with
 |nil=>intro W b c _;rw[au];exact ⟨b,c,rfl⟩
 |@cons p ps u v hp U ih=>
  intro W b c hl;have q:=aaS (N:=N) (σ:=σ) hp (ac (zE (f7 W (u++v))) hl);rw[<-ai] at hl⊢
  rw[cD,kL rfl (show L214.m (aQ TT (N+3)) (Hd sh many σ.length a (some (.d p)) c) (σ++[cx W])= .ok .next (Hd sh many σ.length a (some (.d p)) (some (tS []))) (σ++[cx (W++u)]) from ws [.V 0 q])]
  exact ih hl
theorem aaU(h:Wt many W):W.length<=100->∀{a b c:Option V},∃a' b' c',gw T214.m L214a.m (aQ TT (N+3)) (Hd sh many σ.length a b c) (σ++[cx W.reverse]) (.ok .next (Hd sh many σ.length a' b' c') (σ++[cx []])):=by
 induction h with
 |nil=>
  intro hW a b c;exact ⟨a,b,c,gw.stop (we [.v 0 (JT σ (g:=[cx []]) (j:=0) rfl (aZ _))])⟩
 |@pop W ps u hp hl U ih=>
  intro hW a b c;have e:u.reverse++W=(W.reverse++u).reverse:=by rw[fO,qg]
  rw[e,qg] at ih;rw[e,cj] at hl;rw[<-cj,d6] at hW;have h1:W.reverse.length+1<=lim:=by rw[ae] at hW;exact ac hW (aa (rfl))
  rw[d6]
  generalize W.reverse=W at*
  refine (aaT (N:=N) (sh:=sh) (σ:=σ) (a:=some (.d (.tup ps))) hp (b:=b) (c:=c) hl).elim λb' z0=>z0.elim λc' f=>(ih (by rw[cj];exact hl) (a:=some (.d (.tup ps))) (b:=b') (c:=c')).elim λa2 z0=>z0.elim λb2 z1=>z1.elim λc2 L=>⟨a2,b2,c2,gw.turn (σ₁:=σ++[cx (W++[.tup ps])]) ?_ ?_ L⟩
  ·exact we [.v 0 (JT σ (g:=[cx (W++[.tup ps])]) (j:=0) rfl (Ei (k:=0) hW)),.B 1 (decide_eq_true (aP.mpr (by rw[ae];exact bU _)):decide ((((W++[D.tup ps]).length):Int)>0)=true)]
  ·exact ws [.v 0 (ym σ (g:=[cx (W++[.tup ps])]) (j:=0) rfl),.v 0 (Wq σ (g:=[cx (W++[.tup ps])]) (j:=0) rfl h1),.S 4 f]
theorem JU(h:Wt many [sh]):CF (N+4) many sh:=λσ=>by
 refine (aaU (N:=N) (sh:=sh) (σ:=σ) h (show 1<=100 by decide) (a:=none) (b:=none) (c:=none)).elim λa' z0=>z0.elim λb' z1=>z1.elim λc' L=>⟨[cx []],?_⟩
 exact wc ZV [.S 1 L.eq]
noncomputable abbrev r6:List Tx:=[tx "x",tx "x[1]",[],tx "a\"b",tx "p\\q",tx "n\nl",tx "var"]
inductive oC(many:Int):D->Prop
 |text {s:Tx}:s∈r6->oC many (.tup [.str (tx "text"),.str s])
 |int {i:Int}:AH many (.int i)=true->oC many (.tup [.str (tx "int"),.int i])
 |bool {i:Int}:AH many (.int i)=true->oC many (.tup [.str (tx "bool"),.int i])
 |list {i:Int} {k:Nat}:AH many (.int i)=true->oC many (.tup [.str (tx "list"),.tup ([D.tup [.str (tx "int"),.int i],.tup [.str (tx "text"),.str (tx "a")]].take k)])
 |R0 {i:Int}:AH many (.int i)=true->oC many (.tup [.str (tx "if"),.int i,.tup [.tup [.str (tx "text"),.str (tx "y")],.tup [.str (tx "bool"),.int i]],.tup []])
noncomputable def xx(many:Int)(sh:D):Prop:=∃ps,sh= .tup ps/\ps.length<=2/\∀p∈ps,oC many p
theorem Hc.c0(h:Pc many p [])(h2:Hc many ps v):Hc many (p::ps) v:=.cons h h2
theorem Wt.flat(h:Hc many ps [])(hW:W.length<=99)(w:Wt many W):Wt many (.tup ps::W):=.pop h (bp hW) w
noncomputable def Op(many:Int)(p:D):Prop:=∃u,Pc many p u/\u.length<=2/\∀{W},W.length<=97->Wt many W->Wt many (u.reverse++W)
theorem Ej(h:oC many p):Op many p:=by
 cases h with
 |text=>exact ⟨_,.text,aZ _,λU w=>w⟩
 |int h=>exact ⟨_,.int h,aZ _,λU w=>w⟩
 |bool h=>exact ⟨_,.bool h,aZ _,λU w=>w⟩
 |@list i k h=>
  refine ⟨_,.list,bX 1,λl w=>.flat ?_ (ac l (aa rfl)) w⟩
  match k with
  |0=>exact .nil
  |1=>exact .c0 (.int h) .nil
  |k+2=>exact .c0 (.int h) (.c0 .text (by rw[mZ];exact .nil))
 |R0 h=>exact ⟨_,.R0 h,ax _,λl w=>.flat .nil (aw (ac l (aa rfl))) (.flat (.c0 .text (.c0 (.bool h) .nil)) (ac l (aa rfl)) w)⟩
theorem Mu(h:xx many sh):CF (N+4) many sh:=by
 obtain ⟨ps,rfl,h1,h2⟩:=h;have fin {u:List D} (h:Hc many ps u) (hl:u.length<=4) (w:Wt many u.reverse):CF (N+4) many (.tup ps):=by
  rw[<-au u.reverse] at w;exact JU (.pop h (by rw[au,cj];exact ac hl (aa rfl)) w)
 match ps,h1 with
 |[],_=>exact fin .nil (aZ _) .nil
 |[p],_=>
  refine (Ej (h2 p (.head _))).elim λu z0=>z0.elim λa z1=>z1.elim λb c=>?_
  have w:=c (aZ _) .nil;simp only [au] at w
  refine fin (by have:=Hc.cons a .nil;rwa [au] at this) (ac b (aa rfl)) w
 |[p,q],_=>
  refine (Ej (h2 p (.head _))).elim λu z0=>z0.elim λa z1=>z1.elim λb c=>(Ej (h2 q (.tail _ (.head _)))).elim λv z0=>z0.elim λa' z1=>z1.elim λb' c'=>?_
  have w:=c (aZ _) .nil;simp only [au] at w
  have w:=c' (by rw[cj];exact ac b (aa rfl)) w
  rw[<-fO] at w;refine fin (by have:=Hc.cons a (Hc.cons a' .nil);rwa [au] at this) (ae▸be b b') w
theorem uy:xx many (.tup []):=⟨[],rfl,aZ _,nofun⟩
end
noncomputable def vy(c:Nat):Tx:=if c=34 then [92,34] else if c=92 then [92,92] else if c=10 then [92,110] else [c]
noncomputable def lq(s:Tx):Tx:=34::(s.flatMap vy++[34])
noncomputable def mU(s:Tx):Bool:=match s with
 |[]=>false
 |c::_=>iO lets c&&s.all (iO Hp)
noncomputable abbrev lJ:List Tx:=tx "b0"::tx "b1"::r6
noncomputable def mV:List Tx:=tx "nosuch"::tx "text"::tx "int"::tx "bool"::tx "list"::tx "if"::tx "bounds"::tx "values"::tx "a"::tx "y"::(fY.map (·.1)++r6)
section
theorem of_map{α β:Type}{l:List α}{f g:α->β}{x:α}(hx:x∈l)(h:l.map f=l.map g:=by kernel_rfl):f x=g x:=d5.mp h x hx
theorem aaV(n:Nat)(h:s∈mV):cl (n+1) 219 [tS s]=ret (.bool (mU s)):=of_map (f:=λs=>cl (n+1) 219 [tS s]) (g:=λs=>ret (.bool (mU s))) h
theorem aaW(n:Nat)(h:s∈mV):cl (n+1) 226 [tS s]=ret (.str (lq s)):=of_map (f:=λs=>cl (n+1) 226 [tS s]) (g:=λs=>ret (.str (lq s))) h
theorem aaX(n:Nat)(h:s∈mV):cl (n+1) 555 [tS s]=ret (.str (lq s)):=of_map (f:=λs=>cl (n+1) 555 [tS s]) (g:=λs=>ret (.str (lq s))) h
theorem aaY(n:Nat)(h:s∈lJ):cl (n+1) 550 [tS s]=ret (.bool (mU s)):=of_map (f:=λs=>cl (n+1) 550 [tS s]) (g:=λs=>ret (.bool (mU s))) h
theorem Ws(n:Nat)(h:s∈lJ):cl (n+1) 555 [tS s]=ret (.str (lq s)):=of_map (f:=λs=>cl (n+1) 555 [tS s]) (g:=λs=>ret (.str (lq s))) h
end
noncomputable abbrev kD:List Tx:=[tx ",",tx " "]
noncomputable def gI(late:Bool):List (List Tx)->List Tx
 |[]=>[]
 |p::q=>cond late kD []++p++gI true q
noncomputable def Hq:List D->Option Tx
 | .str s::_=>some s
 |_=>none
noncomputable def CN(l:List D)(ps:List (List Tx)):List Tx:=(Hq l).elim ([tx "["]++gI false ps++[tx "]"]) λs=>[s,tx "("]++gI false ps.tail++[tx ")"]
noncomputable def yz(f:D->List Tx):D->List Tx
 | .bool b=>[cond b (tx "true") (tx "false")]
 | .int i=>[gB i]
 | .str s=>[lq s]
 | .tup l=>CN l (l.map f)
 |_=>[]
noncomputable def pu:Nat->D->List Tx:=λk=>k.rec (yz λU=>[]) λU f=>yz f
noncomputable def FJ(P:D->Prop):D->Prop
 | .bool _=>True
 | .int i=> -9<=i/\i<=9
 | .str s=>s∈mV
 | .tup l=>(Hq l).all mU=true/\l.length<=20/\∀x∈l,P x
 |_=>False
noncomputable def Gd:Nat->D->Prop:=λk=>k.rec (FJ λU=>False) λU P=>FJ P
noncomputable abbrev tL(l:List Tx):V:=.d (.list (l.map .str))
section
variable{n N:Nat}{l rest:List D}{ts us base p:List Tx}
noncomputable def pv(h:ts.length+us.length<=lim):Fa (M V):=fq (l:=vAdd (tL ts) (tL us)) (r:=M.ret (tL (ts++us))) ((if_pos (by rw[af,af];exact h)).trans (by rw[tL,aH]))
theorem aaZ{b:Int}:qA [tI b]=if -1000000<b/\b<1000000 then M.ret ((d3 b.toNat).map λ(k:Nat)=>tI k) else M.no:=rfl
theorem Oh(σ:Store)(h:n<1000000):qA [tI n] σ= .ok ((ew 0 n).map λ(k:Nat)=>tI k) σ:=by
 rw[aaZ,if_pos ⟨bL (by decide) (bw n),aP.mpr h⟩,eE,List.range_eq_range'];rfl
noncomputable abbrev Ek(d:D)(ic:Bool)(ts:List Tx)(rest:List D)(i:Option V):Env:=[some (.d d),some (.d (.bool ic)),some (tL ts),some (.d (.tup rest)),i]
theorem aa0(it:vItem (.d (.tup rest)) (tI w)=ret x)(hw:decide (w>0)=late)(hc:C.call 562 [.d x]=M.ret (tL p))(hl:(base++cond late kD []++p).length<=lim):
  L562.m C (Ek d ic base rest (some (tI w))) σ= .ok .next (Ek d ic (base++cond late kD []++p) rest (some (tI w))) σ:=by
 rw[ae] at hl;have l1:base.length+(cond late kD []).length<=lim:=by rw[ae] at hl;exact ac (ak _ _) hl
 cases late with
 |false=>exact ws [.B 1 hw,.m 1 (pv l1),.M 0 it,.M 0 hc,.m 0 (pv (us:=p) hl)]
 |true=>exact ws [.B 1 hw,.m 1 (pv l1),.M 0 it,.M 0 hc,.m 0 (pv (us:=p) hl)]
theorem JV{k:Nat}:decide ((k:Int)>0)=decide (k>0):=by rw[gd,decide_eq_true_eq,decide_eq_true_eq];exact aP
theorem aa1{f:D->List Tx}(hr:rest.length<=20)(hc:∀x∈rest,C.call 562 [.d x]=M.ret (tL (f x))){w_:List D}:∀{pre:List D} {base:List Tx} {i:Option V},rest=pre++w_->(base++gI (decide (pre.length>0)) (w_.map f)).length<=lim->
  ∃i',jf ((ew pre.length w_.length).map λ(k:Nat)=>tI k) (mT (uv 4)) L562.m C (Ek d ic base rest i) σ= .ok .next (Ek d ic (base++gI (decide (pre.length>0)) (w_.map f)) rest i') σ:=by
 induction w_ with
 |nil=>intro pre base i _ _;exact ⟨i,by rw[show gI (decide (pre.length>0)) (kg f [])=[] from rfl,au];rfl⟩
 |cons x w_ ih=>
  intro pre base i h hl;have e:base++gI (decide (pre.length>0)) ((x::w_).map f)=base++cond (decide (pre.length>0)) kD []++f x++gI true (w_.map f):=by
   show base++(cond (decide (pre.length>0)) kD []++f x++gI true (w_.map f))=_;rw[<-ai,<-ai]
  rw[e] at hl⊢;rw[bP,nT,cD,kL rfl (aa0 (eJ (eQ (bk (by rw[h,ae];exact dj (bU _)) hr:pre.length<20) (by decide)) (by rw[h,aY (ax _),dc];rfl)) JV (hc x (by rw[h];exact aU _ (.head _))) (by rw[ae] at hl;exact ac (ak _ _) hl))]
  rw[(by rw[ae];rfl:pre.length+1=(pre++[x]).length)]
  rw[((decide_eq_true (by rw[<-(by rw[ae];rfl:pre.length+1=(pre++[x]).length)];exact bU _)).symm:true=decide ((pre++[x]).length>0))] at hl⊢
  exact ih (by rw[ai];exact h) hl
theorem xA1{α:Type}{ρ:Env}{f:List V->M α}(h:e.m C ρ σ= .ok v σ):(xB (xA [e]) λv=>xR λU U=>f v).m C ρ σ=f [v] σ:=by
 show Res.bind (Res.bind (e.m C ρ σ) _) _=_;rw[h];rfl
theorem iR1{e:XE}(h:(xf bLen [e]).m C ρ σ= .ok (tI n) σ)(hn:n<1000000):(iR [xf bLen [e]]).m C ρ σ= .ok ((ew 0 n).map λ(k:Nat)=>tI k) σ:=(xA1 h).trans (Oh σ hn)
theorem i4(h:l.length<=20):l.length<=lim:=ac h (aa rfl)
theorem Wu(hr:rest.length<=20)(hc:∀x∈rest,C.call 562 [.d x]=M.ret (tL (f x)))(hl:(base++gI false (rest.map f)).length<=lim):
  ∃i',(zf (iR [xf bLen [xl 3]]) (uv 4) L562).m C (Ek d ic base rest none) σ= .ok .next (Ek d ic (base++gI false (rest.map f)) rest i') σ:=by
 refine (aa1 (σ:=σ) (d:=d) (ic:=ic) hr hc (pre:=[]) (i:=none) rfl hl).elim λi' h=>?_
 refine ⟨i',?_⟩;show RS.nk ((iR [xf bLen [xl 3]]).m C (Ek d ic base rest none) σ) _ _=_;rw[iR1 (we [.m 0 (ig (i4 hr))]) (bi hr (aa rfl))];exact h
theorem Mv(h:x∈l):∀{b},(f x).length<=(gI b (l.map f)).length:=by
 induction l with
 |nil=>cases h
 |cons y l ih=>
  intro b;show _<=(cond b kD []++f y++gI true (l.map f)).length;rw[ae,ae];cases h with
  |head=>exact ac (cK _ _) (ak _ _)
  |tail U h=>exact ac (ih h) (cK _ _)
theorem JW(h: -9<=i/\i<=9):bStr [tI i]=ret (.str (gB i)):=if_pos (gH (decide_eq_true ⟨h.1,aX h.2 (by decide)⟩)).1
noncomputable def El(h:n<=l.length)(hl:l.length<=lim):Fa (M V):=fq (l:=mJ (.d (.tup l)) (tI n) (.d .none)) (r:=ret (.tup (l.drop n))) ((if_pos hl).trans (congrArg (λl=>ret (.tup l)) (show (l.drop (clipAt l.length n)).take (l.length - clipAt l.length n)=l.drop n by rw[tb,gh h,<-g0,gZ])))
theorem Wv(h:Hq (x::l)=none)(hx:x≠ .none)(hy:∀l,x≠ .list l):Ss 3 (.d x)=M.ret false:=by
 cases x with
 |str s=>cases h
 |none=>exact absurd rfl hx
 |list l=>exact absurd rfl (hy l)
 |_=>rfl
theorem JX(h:FJ P d):d≠ .none/\∀l,d≠ .list l:=by
 cases d with
 |none=>exact nomatch h
 |list=>exact nomatch h
 |_=>exact ⟨nofun,nofun⟩
theorem Ww(hP:∀x,P x->x≠ .none/\∀l,x≠ .list l)(hf:∀x,P x->(f x).length<=lim->cl (n+1) 562 [.d x]=M.ret (tL (f x)))(h:FJ P d)(hl:(yz f d).length<=lim):cl (n+2) 562 [.d d]=M.ret (tL (yz f d)):=funext λσ=>by
 cases d with
 |none=>cases h
 |list=>cases h
 |bool b=>cases b<;>exact wc GX []
 |int i=>exact wc GX [.M 8 (JW h)]
 |str s=>exact wc GX [.M 12 (aaX n h)]
 |tup l=>
  obtain ⟨h1,h2,h3⟩:=h;have hl:(CN l (l.map f)).length<=lim:=hl;show _=Res.ok (tL (CN l (l.map f))) σ
  have hc {b:Bool} {r:List D} (hr:∀y∈r,y∈l) (h:(gI b (r.map f)).length<=lim):∀y∈r,(aQ TT (n+1)).call 562 [.d y]=M.ret (tL (f y)):=λy hy=>hf y (h3 y (hr y hy)) (ac (Mv hy) h)
  cases l with
  |nil=>exact wc GX []
  |cons x r=>
   have gt:decide ((((x::r).length):Int)>0)=true:=decide_eq_true (aP.mpr (bU _));have it:vItem (.d (.tup (x::r))) (tI 0)=ret x:=eJ (by decide) rfl
   cases hs:Hq (x::r) with
   |some s=>
    cases x with
    |str t=>
     cases hs;have hl:([s,tx "("]++gI false (r.map f)++[tx ")"]).length<=lim:=hl;rw[ae] at hl
     have l1:=ac (ak _ _) hl;obtain ⟨i',L⟩:=Wu (σ:=σ) (d:=.tup (.str s::r)) (ic:=true) (cg h2) (hc (λy hy=>.tail _ hy) (by rw[ae] at l1;exact ac (cK _ _) l1)) l1
     exact wc GX [.m 12 (ig (i4 h2)),.B 1 gt,.M 0 it,.M 4 it,.m 3 (El (n:=1) (l:=.str s::r) (aw (aZ _)) (i4 h2)),.S 0 L,.m 3 (pv hl)]
    |_=>cases hs
   |none=>
    have e:CN (x::r) ((x::r).map f)=[tx "["]++gI false ((x::r).map f)++[tx "]"]:=by unfold CN;rw[hs];rfl
    rw[e] at hl⊢;rw[ae] at hl;have l1:=ac (ak _ _) hl;obtain ⟨i',L⟩:=Wu (σ:=σ) (d:=.tup (x::r)) (ic:=false) h2 (hc (λy hy=>hy) (by rw[ae] at l1;exact ac (cK _ _) l1)) l1
    exact wc GX [.m 12 (ig (i4 h2)),.B 1 gt,.M 0 it,.T 0 (Wv hs (hP x (h3 x (.head _))).1 (hP x (h3 x (.head _))).2),.S 6 L,.m 3 (pv hl)]
theorem Q_(n:Nat):∀{k:Nat} {d:D},Gd k d->(pu k d).length<=lim->cl (n+k+2) 562 [.d d]=M.ret (tL (pu k d)):=λ{k}=>by
 induction k with
 |zero=>exact λh hl=>Ww nofun nofun h hl
 |succ k ih=>exact λh hl=>Ww (λx hx=>by cases k<;>exact JX hx) (λx hx hl=>ih hx hl) h hl
end
noncomputable abbrev Vr:=Tx×List Rg
noncomputable abbrev mW(rs:List Rg):D:=.tup (rs.map yl)
noncomputable def Vr.D(v:Vr):D:=.tup [.str v.1,mW v.2]
noncomputable def JY(rs:List Rg):List Tx:=
 let b:=gI false (rs.map λr=>[gB r.1,tx "..",gB r.2])
 if rs.length=1 then b else [tx "{"]++b++[tx "}"]
noncomputable def Em(s:Tx):Tx:=cond (mU s) s (lq s)
noncomputable abbrev ij:List (List Rg):=[[(1,3)],[],[(0,0),(2,5)],[(-7, -2)],[(4,4)],[(-3, -3),(0,1)],[(0,1)]]
noncomputable abbrev k_:List Tx:=[tx ";",tx "\n"]
noncomputable def Mw(s:Tx)(rs:List Rg):List Tx:=[tx "var",tx " "]++JY rs++[tx ":",tx " ",s]++k_
noncomputable def yA(v:Vr):List Tx:=Mw (Em v.1) v.2
noncomputable def vD(d:D):List Tx:=[tx "constraint",tx " "]++pu 4 d++k_
noncomputable def xy(k:Tx)(v:Option Int):List Tx:=[tx "solve",tx " ",k]++(v.elim [] λi=>[tx " ",gB i])++k_
noncomputable def Eo(d:D):List Tx:=[tx "output",tx " "]++pu 4 d++k_
structure LM where
 vs:List Vr
 ts:List D
 gk:Tx
 gv:Option Int
 sh:D
noncomputable def CO(v:Option Int):D:=v.elim .none .int
noncomputable def LM.D(m:LM):D:=.tup [.list (m.vs.map Vr.D),.list m.ts,.tup [.str m.gk,CO m.gv],m.sh]
noncomputable def LM.items(m:LM):List (List Tx):=m.vs.map yA++(m.ts.map vD++[xy m.gk m.gv,Eo m.sh])
noncomputable def Wr(d:D):Prop:=Gd 4 d/\(pu 4 d).length<=600/\(pu 4 d).flatten.length<=500
structure LM.Ok(m:LM):Prop where
 vs:∀v∈m.vs,v.1∈lJ/\v.2∈ij
 vl:m.vs.length<=10
 ts:∀d∈m.ts,Wr d
 tl:m.ts.length<=10
 gk:m.gk=tx "satisfy"\/m.gk=tx "minimize"\/m.gk=tx "maximize"
 gv:∀i,m.gv=some i-> -9<=i/\i<=9
 sh:Wr m.sh
section
variable{n:Nat}{σ:Store}{C:nj}{s:Tx}{many:Int}{m a b c d t:D}{v:Vr}{fd:List D}{x y z w:Option V}{rs:List Rg}
theorem Wx(n:Nat)(h:rs∈ij):cl (n+1) 569 [.d (mW rs)]=M.ret (tL (JY rs)):=of_map (f:=λrs=>cl (n+1) 569 [.d (mW rs)]) (g:=λrs=>M.ret (tL (JY rs))) h
theorem Mx(h:rs∈ij):(JY rs).length<=20:=aa (of_map (f:=λrs=>b7 (JY rs).length 20) (g:=λU=>true) h)
noncomputable def Oi(σ:Store){g:Store}{j:Nat}{l b:List D}(h:g[j]? =some (cx l))(hl:l.length+b.length<=lim):Fa (Res V):=fq (l:=vAdd (.obj (σ.length+j)) (.d (.list b)) (σ++g)) (r:=.ok (.d (.list (l++b))) (σ++g)) (by
 show c7 _ _ (σ++g)=_;unfold c7 ofList;rw[k_get,h];show sF (lD (l.map .d)) _ (σ++g)=_;rw[te,li];exact congrFun (if_pos hl) _)
noncomputable abbrev CP(m a b c d:D)(k:Nat)(x y z w:Option V):Env:=[some (.d m),some (.d a),some (.d b),some (.d c),some (.d d),some (.obj k),x,y,z,w]
theorem Ra{p q r:List Tx}(hq:q.length<=600)(hp:p.length<=3)(hr:r.length<=3):p.length+q.length<=lim/\(p++q).length+r.length<=lim/\(p++q++r).length+k_.length<=lim:=by
 simp only [ae];exact ⟨ac (ak _ _) (ac (ak _ _) (ac (aB (be (be hp hq) hr) 2) (show 608<=lim from aa rfl))),ac (ak _ _) (ac (aB (be (be hp hq) hr) 2) (show 608<=lim from aa rfl)),(ac (aB (be (be hp hq) hr) 2) (show 608<=lim from aa rfl):p.length+q.length+r.length+2<=lim)⟩
theorem Wy(n:Nat)(h1:v.1∈lJ)(h2:v.2∈ij)(hl:fd.length<=100):
  L576.m (aQ TT (n+1)) (CP m a b c d σ.length (some (tS v.1)) (some (.d (mW v.2))) z w) (σ++[cx fd])= .ok .next (CP m a b c d σ.length (some (tS v.1)) (some (.d (mW v.2))) (some (tL [tx ":",tx " ",Em v.1])) w) (σ++[cx (fd++[.list ((yA v).map .str)])]):=by
 have e:=aaY n h1;have c2 {s:Tx}:=Ra (p:=[tx "var",tx " "]) (r:=[tx ":",tx " ",s]) (ac (Mx h2) (aa rfl)) (bX 2) (ax 3)
 unfold yA;cases q:mU v.1 with
 |true=>
  rw[q] at e;rw[show Em v.1=v.1 by unfold Em;rw[q];rfl]
  obtain ⟨q1,q2,q3⟩:=c2 (s:=v.1);exact ws [.M 0 e,.v 3 (ym σ (g:=[cx fd]) (j:=0) rfl),.M 1 (Wx n h2),.m 0 (pv q1),.m 0 (pv q2),.m 1 (pv q3),.v 0 (AN σ (.list ((Mw v.1 v.2).map .str)) (g:=[cx fd]) (j:=0) rfl (Ei (k:=0) hl))]
 |false=>
  rw[q] at e;rw[show Em v.1=lq v.1 by unfold Em;rw[q];rfl]
  obtain ⟨q1,q2,q3⟩:=c2 (s:=lq v.1);exact ws [.M 0 e,.M 2 (Ws n h1),.v 1 (ym σ (g:=[cx fd]) (j:=0) rfl),.M 1 (Wx n h2),.m 0 (pv q1),.m 0 (pv q2),.m 1 (pv q3),.v 0 (AN σ (.list ((Mw (lq v.1) v.2).map .str)) (g:=[cx fd]) (j:=0) rfl (Ei (k:=0) hl))]
theorem WA(n:Nat)(h:Wr t)(hl:fd.length<=100):
  L576a.m (aQ TT (n+6)) (CP m a b c d σ.length x y z (some (.d t))) (σ++[cx fd])= .ok .next (CP m a b c d σ.length x y z (some (.d t))) (σ++[cx (fd++[.list ((vD t).map .str)])]):=by
 obtain ⟨q1, -,q3⟩:=Ra (p:=[tx "constraint",tx " "]) (r:=[]) h.2.1 (bX 2) (aZ _);rw[au] at q3;exact ws [.v 0 (ym σ (g:=[cx fd]) (j:=0) rfl),.M 1 (Q_ n h.1 (ac h.2.1 (aa rfl))),.m 0 (pv q1),.m 1 (pv q3),.v 0 (AN σ (.list ((vD t).map .str)) (g:=[cx fd]) (j:=0) rfl (Ei (k:=0) hl))]
noncomputable abbrev itD(p:List Tx):D:=.list (p.map .str)
theorem WB(n:Nat){vs:List Vr}:∀{fd:List D} {x y z:Option V},(∀v∈vs,v.1∈lJ/\v.2∈ij)->fd.length+vs.length<=100->
  ∃x' y' z',jf ((vs.map Vr.D).map .d) (mT (up [uv 6,uv 7])) L576.m (aQ TT (n+1)) (CP m a b c d σ.length x y z w) (σ++[cx fd])= .ok .next (CP m a b c d σ.length x' y' z' w) (σ++[cx (fd++vs.map λv=>itD (yA v))]):=by
 induction vs with
 |nil=>intro fd x y z _ _;exact ⟨x,y,z,by show _=RS.ok .next _ (σ++[cx (fd++[])]);rw[au];rfl⟩
 |cons v vs ih=>
  intro fd x y z h hl;refine (h v (.head _)).elim λh1 h2=>?_
  rw[cD,cD,kL rfl (Wy n h1 h2 (ac (ak _ _) hl)),cD,jX fd _ (vs.map _)];exact ih (λu hu=>h u (.tail _ hu)) (by rw[ae,pC,bo,bI 1];exact hl)
theorem WC(n:Nat){ts:List D}:∀{fd:List D} {w:Option V},(∀t∈ts,Wr t)->fd.length+ts.length<=100->
  ∃w',jf (ts.map .d) (mT (uv 9)) L576a.m (aQ TT (n+6)) (CP m a b c d σ.length x y z w) (σ++[cx fd])= .ok .next (CP m a b c d σ.length x y z w') (σ++[cx (fd++ts.map λt=>itD (vD t))]):=by
 induction ts with
 |nil=>intro fd w _ _;exact ⟨w,by show _=RS.ok .next _ (σ++[cx (fd++[])]);rw[au];rfl⟩
 |cons t ts ih=>
  intro fd w h hl;rw[cD,kL rfl (WA n (h t (.head _)) (ac (ak _ _) hl)),cD,jX fd _ (ts.map _)];exact ih (λu hu=>h u (.tail _ hu)) (by rw[ae,pC,bo,bI 1];exact hl)
theorem WD(n:Nat){m:LM}(h:m.Ok):∃g,cl (n+7) 576 [.d m.D] σ= .ok (.d (.list (m.items.map itD))) (σ++g):=by
 obtain ⟨vs,ts,gk,gv,sh⟩:=m;have hl:vs.length+ts.length<=20:=be h.vl h.tl;obtain ⟨x,y,z,r1⟩:=WB (n+5) (m:=.tup [.list (vs.map Vr.D),.list ts,.tup [.str gk,CO gv],sh]) (a:=.list (vs.map Vr.D)) (b:=.list ts) (c:=.tup [.str gk,CO gv]) (d:=sh) (w:=none) (σ:=σ) (vs:=vs) (fd:=[]) (x:=none) (y:=none) (z:=none) h.vs (ac (aW (bA _)) (ac h.vl (aa rfl)))
 obtain ⟨w,r2⟩:=WC n (m:=.tup [.list (vs.map Vr.D),.list ts,.tup [.str gk,CO gv],sh]) (a:=.list (vs.map Vr.D)) (b:=.list ts) (c:=.tup [.str gk,CO gv]) (d:=sh) (σ:=σ) (ts:=ts) (fd:=[]++vs.map λv=>itD (yA v)) (x:=x) (y:=y) (z:=z) (w:=none) h.ts (by rw[ae,af];exact ac (aW (by rw[bo];exact bA _)) (ac hl (aa rfl)))
 obtain ⟨q1, -,q3⟩:=Ra (p:=[tx "output",tx " "]) (r:=[]) h.sh.2.1 (bX 2) (aZ _);simp only [au] at q3;have L:([]++(vs.map λv=>itD (yA v))++ts.map λt=>itD (vD t)).length<=20:=by rw[ae,ae,af,af,dR,bA];exact hl
 have eI:[]++(vs.map λv=>itD (yA v))++(ts.map λt=>itD (vD t))++[itD (xy gk gv)]++[itD (Eo sh)]=(LM.items ⟨vs,ts,gk,gv,sh⟩).map itD:=by
  unfold LM.items;rw[aH,aH,bR,bR,ai,ai];rfl
 rw[<-eI]
 generalize []++(vs.map λv=>itD (yA v))++(ts.map λt=>itD (vD t))=fd at*
 refine ⟨[cx (fd++[itD (xy gk gv)])],?_⟩;have facts:=Ei (k:=1) (by rw[ae];exact ac (aw L) (aa rfl):(fd++[itD (xy gk gv)]).length<=100)
 clear eI;cases gv with
 |none=>
  exact wc VF [.S 1 r1,.S 0 r2,.v 0 (ym σ (g:=[cx fd]) (j:=0) rfl),.v 9 (AN σ (itD (xy gk none)) (g:=[cx fd]) (j:=0) rfl (ac L (aa rfl))),.M 1 (Q_ n h.sh.1 (ac h.sh.2.1 (aa rfl))),.m 0 (pv q1),.m 1 (pv q3),.v 1 (Oi σ (g:=[cx (fd++[itD (xy gk none)])]) (j:=0) (b:=[itD (Eo sh)]) rfl facts)]
 |some i=>
  exact wc VF [.S 1 r1,.S 0 r2,.v 0 (ym σ (g:=[cx fd]) (j:=0) rfl),.M 6 (JW (h.gv i rfl)),.v 4 (AN σ (itD (xy gk (some i))) (g:=[cx fd]) (j:=0) rfl (ac L (aa rfl))),.M 1 (Q_ n h.sh.1 (ac h.sh.2.1 (aa rfl))),.m 0 (pv q1),.m 1 (pv q3),.v 1 (Oi σ (g:=[cx (fd++[itD (xy gk (some i))])]) (j:=0) (b:=[itD (Eo sh)]) rfl facts)]
end
section
variable{ls:List (List Tx)}
theorem JZ(l:List Tx):rL l=l.flatten.length:=kO.symm
theorem jn(h:ts.flatten.length<=lim):mJoin (tS []) [tL ts]=ret (.str ts.flatten):=by
 show mM [] (ts.map .str)=_;unfold mM;rw[pV];exact (if_pos (by rw[JZ];exact h)).trans (by rw[join_nil])
theorem aa3(n:Nat)(h:ls.length<=100)(h2:∀l∈ls,l.flatten.length<=lim)(h3:(ls.map fB).flatten.length<=lim):cl (n+1) 581 [.d (.list (ls.map itD))]=ret (.str (ls.map fB).flatten):=funext λσ=>by
 have cc:=ce (C:=aQ TT n) (σ:=σ) (f:=λx=>match x with| .list l=>(match txts l with|some ts=>.str ts.flatten|none=>x)|x=>x) (l:=ls.map itD) (i:=iE (xl 0)) (e:=xM 0 mJoin (xD (.str [])) [xl 0]) (cap:=[none]) (o:=none) (r:=[]) (ρ:=[some (.d (.list (ls.map itD)))])
  (we []) rfl (λx hx=>by
   obtain ⟨l,hl,rfl⟩:=br.mp hx;dsimp only;rw[(pV l:txts (l.map .str)=some l)];exact we [.M 1 (jn (h2 l hl))]) (by rw[af];exact ac h (by decide))
 have e:((ls.map itD).map λx=>match x with| .list l=>(match txts l with|some ts=>D.str ts.flatten|none=>x)|x=>x)=(ls.map fB).map .str:=by
  rw[bR,bR];exact congrArg (kg · ls) (funext λl=>by show (match txts (l.map .str) with|some ts=>D.str ts.flatten|none=>_)=_;rw[pV];rfl)
 rw[e] at cc;exact wc Z7 [.V 1 cc,.M 0 (jn h3)]
end
inductive Wi where
 |t (s:Tx)|d (x:D)
noncomputable def Wi.D:Wi->D
 | .t s=>.tup [.bool true,.str s]
 | .d x=>.tup [.bool false,x]
noncomputable def dS(late:Bool):List D->List Wi
 |[]=>[]
 |x::r=>cond late [.t (tx ", ")] []++ .d x::dS true r
noncomputable abbrev wD(l:List Wi):List D:=l.reverse.map Wi.D
noncomputable def zm(l:List D):List Wi:=(Hq l).elim (.t (tx "[")::dS false l++[.t (tx "]")]) λs=>.t (s++tx "(")::dS false l.tail++[.t (tx ")")]
section
variable{n:Nat}{σ:Store}{C:nj}{s:Tx}{l rest P W:List D}{d x:D}{ic late:Bool}
theorem aa4(n:Nat)(h:FJ (λU=>False) d)(hd:∀l,d≠ .tup l):∃t,(∀k,pu k d=[t])/\cl (n+2) 233 [.d d]=ret (.str t):=by
 cases d with
 |none=>cases h
 |list=>cases h
 |tup l=>exact absurd rfl (hd l)
 |bool b=>exact ⟨_,λk=>by cases k<;>rfl,funext λσ=>by cases b<;>exact wc QA []⟩
 |int i=>exact ⟨_,λk=>by cases k<;>rfl,funext λσ=>wc QA [.M 10 (JW h)]⟩
 |str s=>exact ⟨_,λk=>by cases k<;>rfl,funext λσ=>wc QA [.M 14 (aaW n h)]⟩
noncomputable abbrev CQ(d:D)(k:Nat)(ic:Bool)(rest:List D)(x:Option V):Env:=[some (.d d),some (.obj k),some (.d (.bool ic)),some (.d (.tup rest)),x]
theorem My{w:Int}(it:vItem (.d (.tup rest)) (tI w)=ret x)(hw:decide (w>0)=late)(hl:W.length<=900):
  L240.m C (CQ d (σ.length+1) ic rest (some (tI w))) (σ++[cx P,cx W])= .ok .next (CQ d (σ.length+1) ic rest (some (tI w))) (σ++[cx P,cx (W++[Wi.D (.d x)]++cond late [Wi.D (.t (tx ", "))] [])]):=by
 cases late with
 |true=>exact ws [.v 0 (ym σ (g:=[cx P,cx W]) (j:=1) (l:=W) rfl),.M 0 it,.v 1 (AN σ (Wi.D (.d x)) (g:=[cx P,cx W]) (j:=1) (l:=W) rfl (ac hl (aa rfl):W.length<=lim)),.B 1 hw,.v 0 (ym σ (g:=[cx P,cx (W++[Wi.D (.d x)])]) (j:=1) (l:=W++[Wi.D (.d x)]) rfl),.v 1 (AN σ (Wi.D (.t (tx ", "))) (g:=[cx P,cx (W++[Wi.D (.d x)])]) (j:=1) rfl (by rw[ae];exact ac (aw hl) (aa rfl)))]
 |false=>
  simp only [cond_false,au];exact ws [.v 0 (ym σ (g:=[cx P,cx W]) (j:=1) rfl),.M 0 it,.v 1 (AN σ (Wi.D (.d x)) (g:=[cx P,cx W]) (j:=1) rfl (ac hl (aa rfl))),.B 1 hw]
theorem qH{l:List D}:∀{b:Bool},(dS b l).length<=2*l.length:=by
 induction l with
 |nil=>exact λ{b}=>ax _
 |cons x l ih=>
  intro b;show (cond b [Wi.t (tx ", ")] []++Wi.d x::dS true l).length<=2*(l.length+1);rw[ae];exact ac (be (by cases b<;>decide) (aw (ih))) (aW (tK 1 _ 1))
theorem aa5(hr:rest.length<=20){w_:List D}:∀{pre W:List D} {ys:List V} {x:Option V},rest=pre++w_->W.length+2*w_.length<=800->
  ∃x',jf ((ew pre.length w_.length).reverse.map (λ(k:Nat)=>tI k)++ys) (mT (uv 4)) L240.m C (CQ d (σ.length+1) ic rest x) (σ++[cx P,cx W])=jf ys (mT (uv 4)) L240.m C (CQ d (σ.length+1) ic rest x') (σ++[cx P,cx (W++wD (dS (decide (pre.length>0)) w_))]):=by
 induction w_ with
 |nil=>intro pre W ys x _ _;exact ⟨x,by rw[show W++wD (dS (decide (pre.length>0)) [])=W from au W];rfl⟩
 |cons y w_ ih=>
  intro pre W ys x h hl;refine (ih (pre:=pre++[y]) (W:=W) (ys:=tI pre.length::ys) (x:=x) (by rw[ai];exact h) (ac (ak _ 2) hl)).elim λx' r=>?_
  rw[(decide_eq_true (by rw[(by rw[ae];rfl:(pre++[y]).length=pre.length+1)];exact bU _)),(by rw[ae];rfl:(pre++[y]).length=pre.length+1)] at r
  have hW:(W++wD (dS true w_)).length<=900:=by
   simp only [ae,wD,af,cj];exact ac (aK qH _) (ac (ak _ 2) (ac hl (aa rfl)))
  refine ⟨some (tI pre.length),?_⟩;simp only [bP,nT,d6,aH,ai];refine r.trans ((kL rfl (My (eJ (eQ (bk (by rw[h,ae];exact dj (bU _)) hr:pre.length<20) (by decide)) (by rw[h,aY (ax _),dc];rfl)) JV hW)).trans ?_)
  have e3:wD (dS (decide (pre.length>0)) (y::w_))=wD (dS true w_)++[Wi.D (.d y)]++cond (decide (pre.length>0)) [Wi.D (.t (tx ", "))] []:=by
   show (cond (decide (pre.length>0)) [Wi.t (tx ", ")] []++ .d y::dS true w_).reverse.map Wi.D=_;simp only [fO,d6,aH,aH];cases decide (pre.length>0)<;>rfl
  simp only [e3,ai,ai,ai]
theorem aa6{a b c:Int}:qA [tI a,tI b,tI c]=if c= -1/\ -1000000<a/\a<1000000/\b= -1 then M.ret ((d3 (a+1).toNat).map λ(k:Nat)=>tI (a - k)) else M.no:=rfl
theorem aa7(σ:Store)(h:n<=20):qA [tI ((n:Int) - 1),tI (-1),tI (-1)] σ= .ok ((ew 0 n).reverse.map λ(k:Nat)=>tI k) σ:=by
 rw[aa6,if_pos ⟨rfl,bL (by decide) (kj (bw n) 1),lO (Int.sub_le_self _ (by decide)) (aP.mpr (bi h (by decide))),rfl⟩,(by rw[lL,eE]:((n:Int) - 1+1).toNat=n),List.reverse_range',bR]
 refine congrArg (λl=>Res.ok l σ) (hO λk hk=>congrArg tI ?_)
 obtain ⟨j,rfl⟩:=Nat.exists_eq_add_of_lt (jq.mp hk);show ((k:Int)+j+1) - 1 - k=((0+(k+j+1) - 1 - k:Nat):Int);rw[bA,Nat.add_sub_cancel,eC,dy,lh,dy]
theorem xA0{α:Type}{m:XA}{ρ:Env}{l:List V}{f:List V->M α}(h:m.m C ρ σ= .ok l σ):(xB m λv=>xR λU U=>f v).m C ρ σ=f l σ:=by
 show Res.bind (m.m C ρ σ) _=_;rw[h];rfl
theorem WE(hr:rest.length<=20)(hl:W.length<=700):∃x',(zf (iR [x2 vSub (xf bLen [xl 3]) (xi 1),x1 vNeg (xi 1),x1 vNeg (xi 1)]) (uv 4) L240).m C (CQ d (σ.length+1) ic rest none) (σ++[cx P,cx W])= .ok .next (CQ d (σ.length+1) ic rest x') (σ++[cx P,cx (W++wD (dS false rest))]):=by
 refine (aa5 (C:=C) (d:=d) (σ:=σ) (ic:=ic) (P:=P) hr (pre:=[]) (W:=W) (ys:=[]) (x:=none) rfl (ac (be hl (ci 2 hr)) (aa rfl))).elim λx' h=>?_
 rw[au] at h;refine ⟨x',?_⟩;show RS.nk ((iR _).m C (CQ d (σ.length+1) ic rest none) (σ++[cx P,cx W])) _ _=_;rw[show (iR [x2 vSub (xf bLen [xl 3]) (xi 1),x1 vNeg (xi 1),x1 vNeg (xi 1)]).m C (CQ d (σ.length+1) ic rest none) (σ++[cx P,cx W])=_ from (xA0 (we [.m 0 (ig (i4 hr))])).trans (aa7 _ hr)]
 exact h
theorem Mz(h:s∈mV):s.length<=20:=aa (of_map (f:=λs:Tx=>b7 s.length 20) (g:=λU=>true) h)
noncomputable def MA{t:Tx}(h:s.length+t.length<=lim):Fa (M V):=fq (l:=vAdd (tS s) (tS t)) (r:=ret (.str (s++t))) (if_pos h)
theorem aa8(n:Nat){Q:D->Prop}(hQ:∀x,Q x->x≠ .none/\∀l,x≠ .list l)(hS:∀s,Q (.str s)->s∈mV)(h:FJ Q (.tup l))(hl:W.length<=600):cl (n+2) 240 [.d (.tup l),.obj (σ.length+1)] (σ++[cx P,cx W])= .ok (.d .none) (σ++[cx P,cx (W++wD (zm l))]):=by
 obtain ⟨h1,h2,h3⟩:=h;have hW:∀{y:D},(W++[y]).length<=700:=by intro y;rw[ae];exact ac (aw hl) (aa rfl)
 have big {r:List D} {y:D} (hr:r.length<=20):(W++[y]++wD (dS false r)).length<=lim:=by
  rw[ae,wD,af,cj];exact ac (be hW (ac qH (ci 2 hr))) (aa rfl)
 have e (a z:Wi) r:wD (a::dS false r++[z])=[z.D]++wD (dS false r)++[a.D]:=by
  show ((a::dS false r)++[z]).reverse.map Wi.D=_;simp only [fO,aH,d6 (a:=a),aH];rfl
 have low:W.length<=lim:=ac hl (aa rfl);cases hs:Hq l with
 |some s=>
  cases l with
  |nil=>cases hs
  |cons x r=>
   cases x with
   |str t=>
    cases hs;have w:=aaV n (hS s (h3 _ (.head _)));simp only [show mU s=true from h1] at w
    refine (WE (C:=aQ TT (n+1)) (d:=.tup (.str s::r)) (σ:=σ) (P:=P) (ic:=true) (cg h2) (hW (y:=(Wi.t (tx ")")).D))).elim λx' L=>?_
    show _=Res.ok _ (σ++[cx P,cx (W++wD (.t (s++tx "(")::dS false r++[.t (tx ")")]))]);simp only [e,<-ai,<-ai];exact wc QC [.m 0 (ig (i4 h2)),.B 1 (decide_eq_true (aP.mpr (bU _)):decide ((((D.str s::r).length:Nat):Int)>0)=true),.m 0 (Og s r),.m 2 (Og s r),.M 0 w,.m 4 (El (n:=1) (l:=.str s::r) (aw (aZ _)) (i4 h2)),.v 0 (ym σ (g:=[cx P,cx W]) (j:=1) (l:=W) rfl),.v 3 (AN σ (Wi.t (tx ")")).D (g:=[cx P,cx W]) (j:=1) (l:=W) rfl low),.S 0 L,.v 0 (ym σ (g:=[cx P,cx (W++[(Wi.t (tx ")")).D]++wD (dS false r))]) (j:=1) (l:=W++[(Wi.t (tx ")")).D]++wD (dS false r)) rfl),.m 2 (Og s r),.m 0 (MA (t:=tx "(") (ac (aw (Mz (hS s (h3 _ (.head _))))) (aa rfl))),.v 1 (AN σ (Wi.t (s++tx "(")).D (g:=[cx P,cx (W++[(Wi.t (tx ")")).D]++wD (dS false r))]) (j:=1) rfl (big (cg h2:r.length<=20)))]
   |_=>cases hs
 |none=>
  refine (WE (C:=aQ TT (n+1)) (d:=.tup l) (σ:=σ) (P:=P) (ic:=false) h2 (hW (y:=(Wi.t (tx "]")).D))).elim λx' L=>?_
  simp only [(by unfold zm;rw[hs];rfl:zm l= .t (tx "[")::dS false l++[.t (tx "]")]),e,<-ai,<-ai]
  cases l with
  |nil=>
   rw[show W++[(Wi.t (tx "]")).D]++wD (dS false [])=W++[(Wi.t (tx "]")).D] from au _]
   exact wc QC [.v 5 (ym σ (g:=[cx P,cx W]) (j:=1) (l:=W) rfl),.v 3 (AN σ (Wi.t (tx "]")).D (g:=[cx P,cx W]) (j:=1) (l:=W) rfl low),.v 1 (ym σ (g:=[cx P,cx (W++[(Wi.t (tx "]")).D])]) (j:=1) rfl),.v 3 (AN σ (Wi.t (tx "[")).D (g:=[cx P,cx (W++[(Wi.t (tx "]")).D])]) (j:=1) rfl (ac hW (aa rfl)))]
  |cons x r=>
   exact wc QC [.m 0 (ig (i4 h2)),.B 1 (decide_eq_true (aP.mpr (bU _)):decide ((((x::r).length:Nat):Int)>0)=true),.M 0 (eJ (j:=0) (aa rfl) rfl:vItem (.d (.tup (x::r))) (tI 0)=ret x),.T 0 (Wv hs (hQ x (h3 x (.head _))).1 (hQ x (h3 x (.head _))).2),.v 3 (ym σ (g:=[cx P,cx W]) (j:=1) (l:=W) rfl),.v 3 (AN σ (Wi.t (tx "]")).D (g:=[cx P,cx W]) (j:=1) (l:=W) rfl low),.S 0 L,.v 0 (ym σ (g:=[cx P,cx (W++[(Wi.t (tx "]")).D]++wD (dS false (x::r)))]) (j:=1) (l:=W++[(Wi.t (tx "]")).D]++wD (dS false (x::r))) rfl),.v 3 (AN σ (Wi.t (tx "[")).D (g:=[cx P,cx (W++[(Wi.t (tx "]")).D]++wD (dS false (x::r)))]) (j:=1) rfl (big h2))]
end
noncomputable abbrev sS(σ:Store)(ps:List Tx)(st:List Wi):Store:=σ++[cx (ps.map .str),cx (wD st)]
noncomputable abbrev dE(d:D)(σ:Store)(x y:Option V):Env:=[some (.d d),some (.obj σ.length),some (.obj (σ.length+1)),x,y]
section
variable(n:Nat)(σ:Store)(d:D)(T:Tx)
noncomputable def Ru(q:List Tx)(st:List Wi):Prop:=∀ps x y,ps.flatten++q.flatten=T->ps.length+q.length<=600->∃Bg x' y',Bg.flatten=T/\gw T247.m L247.m (aQ TT (n+3)) (dE d σ x y) (sS σ ps st) (.ok .next (dE d σ x' y') (sS σ Bg []))
end
section
variable{n k:Nat}{σ:Store}{d x:D}{s T:Tx}{st w4:List Wi}{i:Wi}{C:nj}{l r:List D}{ps q q' p:List Tx}{late:Bool}
theorem AO:(wD st).length=st.length:=by rw[wD,af,cj]
theorem MD:wD (i::st)=wD st++[i.D]:=by rw[wD,d6,aH];rfl
theorem Ru.nil:Ru n σ d T [] []:=λps x y e U=>⟨ps,x,y,(au _).symm.trans e,.stop (we [.v 0 (JT σ (g:=[cx (ps.map .str),cx (wD [])]) (j:=1) rfl (aZ _))])⟩
theorem Ru.step(hl:st.length<=600)(hb:∀ps x y,ps.length+q.length<=600->∃Bg x' y',Bg.flatten++q'.flatten=ps.flatten++q.flatten/\Bg.length+q'.length<=600/\L247.m (aQ TT (n+3)) (dE d σ x y) (sS σ ps (i::st))= .ok .next (dE d σ x' y') (sS σ Bg w4))(h:Ru n σ d T q' w4):Ru n σ d T q (i::st):=λps x y e hp=>by
 refine cps λP9 k9=>?_
 obtain ⟨WG,aa9,aba,DA,abb,b⟩:=hb ps x y hp;obtain ⟨WH,abc,abd,Lw,L⟩:=h WG aa9 aba (DA.trans e) abb;refine k9 ⟨WH,abc,abd,Lw,.turn (σ₁:=sS σ ps (i::st)) ?_ b L⟩;exact we [.v 0 (JT σ (g:=[cx (ps.map .str),cx (wD (i::st))]) (j:=1) (l:=wD (i::st)) rfl (by rw[AO];exact ac (aw hl) (show 601<=lim from aa rfl))),.B 1 (decide_eq_true (aP.mpr (by rw[AO];exact bU _)):decide ((((wD (i::st)).length:Nat):Int)>0)=true)]
noncomputable def J0(σ:Store)(ps:List Tx)(i:Wi)(hl:st.length<=600):Fa (Res V):=fq (l:=mPop (.obj (σ.length+1)) [] (sS σ ps (i::st))) (r:=.ok (.d i.D) (sS σ ps st)) (by
 rw[sS,MD];exact (Wq σ (g:=[cx (ps.map .str),cx (wD st++[i.D])]) (j:=1) (l:=wD st) (x:=i.D) rfl (by rw[AO];exact ac (aw hl) (show 601<=lim from aa rfl))).h)
noncomputable def WI(σ:Store)(s:Tx)(st:List Wi)(hl:ps.length+q.length<=600):Fa (Res V):=fq (l:=mAppend (.obj σ.length) [tS s] (sS σ ps st)) (r:=.ok (.d .none) (sS σ (ps++[s]) st)) (by
 rw[sS,sS,aH];exact (AN σ (.str s) (g:=[cx (ps.map .str),cx (wD st)]) (j:=0) (l:=ps.map .str) rfl (by rw[af];exact ac (ac (ak _ _) hl) (show 600<=lim from aa rfl))).h)
noncomputable def WJ(σ:Store)(ps:List Tx)(st:List Wi):Fa (Res V):=ym σ (g:=[cx (ps.map .str),cx (wD st)]) (j:=0) (l:=ps.map .str) rfl
noncomputable def Rc(σ:Store)(ps:List Tx)(st:List Wi):Fa (Res V):=ym σ (g:=[cx (ps.map .str),cx (wD st)]) (j:=1) (l:=wD st) rfl
theorem snoc(hp:p.flatten=s)(h0:1<=p.length)(h:ps.length+(p++q).length<=600):(ps++[s]).flatten++q.flatten=ps.flatten++(p++q).flatten/\(ps++[s]).length+q.length<=600:=by
 rw[bJ,bJ,hp,dJ,nU,au,ai,ae];refine ⟨rfl,?_⟩;rw[ae,<-bo] at h;exact ac (aB (aK h0 _) _) h
theorem Ru.t(hp:p.flatten=s)(h0:1<=p.length)(hl:st.length<=600)(h:Ru n σ d T q st):Ru n σ d T (p++q) (.t s::st):=.step hl (λps x y e=>by
 obtain ⟨e1,e2⟩:=snoc hp h0 e;refine ⟨ps++[s],some (.d (.bool true)),some (tS s),e1,e2,?_⟩;exact ws [.v 0 (Rc σ ps (.t s::st)),.v 0 (J0 σ ps (.t s) hl),.v 2 (WJ σ ps st),.v 0 (WI σ s st e)]) h
theorem Ru.w{f:D->List Tx}{Q:D->Prop}(hg:FJ Q x)(hx:∀l,x≠ .tup l)(hl:st.length<=600)(h:Ru n σ d T q st):Ru n σ d T (yz f x++q) (.d x::st):=by
 have e0:FJ (λU=>False) x/\yz f x=pu 0 x/\Ss 2 (.d x)=M.ret false:=by
  cases x with
  |tup=>exact absurd rfl (hx _)
  |none=>cases hg
  |list=>cases hg
  |_=>exact ⟨hg,rfl,rfl⟩
 obtain ⟨e0,e4,e3⟩:=e0;obtain ⟨s,e1,e2⟩:=aa4 (n+1) e0 hx;rw[e4,e1];refine .step hl (λps y z e=>?_) h
 obtain ⟨q1,q2⟩:=snoc (p:=[s]) (au s) (ax 1) e;refine ⟨ps++[s],some (.d (.bool false)),some (.d x),q1,q2,?_⟩;exact ws [.v 0 (Rc σ ps (.d x::st)),.v 0 (J0 σ ps (.d x) hl),.T 2 e3,.v 3 (WJ σ ps st),.M 0 e2,.v 0 (WI σ s st e)]
theorem Ru.o{Q:D->Prop}(hQ:∀x,Q x->x≠ .none/\∀l,x≠ .list l)(hS:∀s,Q (.str s)->s∈mV)(hg:FJ Q (.tup l))(hl:st.length<=600)(h:Ru n σ d T q (zm l++st)):Ru n σ d T q (.d (.tup l)::st):=.step hl (λps x y e=>⟨ps,some (.d (.bool false)),some (.d (.tup l)),rfl,e,by
 have c:=aa8 (σ:=σ) (P:=ps.map .str) (n+1) hQ hS hg (ac (aW AO) hl);rw[show wD st++wD (zm l)=wD (zm l++st) by rw[wD,wD,wD,fO,aH]] at c
 exact ws [.v 0 (Rc σ ps (.d (.tup l)::st)),.v 0 (J0 σ ps (.d (.tup l)) hl),.V 6 c]⟩) h
noncomputable def X0(n b:Nat)(σ:Store)(d:D)(T:Tx)(f:D->List Tx)(x:D):Prop:=∀{q st},st.length+b<=500->Ru n σ d T q st->Ru n σ d T (f x++q) (.d x::st)
theorem MG{b:Nat}{f:D->List Tx}(h:Ru n σ d T q st):∀{late},(∀x∈r,X0 n b σ d T f x)->st.length+2*r.length+b<=500->Ru n σ d T (gI late (r.map f)++q) (dS late r++st):=by
 induction r with
 |nil=>exact λU U=>h
 |cons x r ih=>
  intro late H hl;have l1:(dS true r++st).length+2+b<=500:=by
   rw[ae,bI (dS true r).length,bo st.length];exact ac (aB (aK (aw (aw qH)) _) _) hl
  show Ru n σ d T (cond late kD []++f x++gI true (r.map f)++q) ((cond late [.t (tx ", ")] []++ .d x::dS true r)++st);rw[ai,ai];cases late with
  |false=>exact (H x (.head _) (ac (aB (ak _ 2) b) l1) (ih (late:=true) (λy hy=>H y (.tail _ hy)) (ac (aB (aK (ci 2 (bX _)) _) _) hl)))
  |true=>exact .t (p:=kD) rfl (bX 1) (ac (bX _) (ac (ac (ak _ b) l1) (by decide))) (H x (.head _) (ac (aB (ak _ 2) b) l1) (ih (late:=true) (λy hy=>H y (.tail _ hy)) (ac (aB (aK (ci 2 (bX _)) _) _) hl)))
theorem goT{b:Nat}{f:D->List Tx}{Q:D->Prop}(hQ:∀x,Q x->x≠ .none/\∀l,x≠ .list l)(hS:∀s,Q (.str s)->s∈mV)(H:∀x,Q x->X0 n b σ d T f x)(hg:FJ Q x):X0 n (b+50) σ d T (yz f) x:=λ{q st} hl h=>by
 have l0:=ac (ak _ _) hl;have l1:=ac l0 (show 500<=600 by decide)
 cases x with
 |tup l=>
  have fin {a z:Tx} {p:List Tx} {r:List D} (hr:∀x∈r,x∈l) (TN:r.length<=20) (hp:p.flatten=a) (h0:1<=p.length):Ru n σ d T (p++gI false (r.map f)++[z]++q) (.t a::dS false r++[.t z]++st):=by
   rw[ai,ai,ai];refine .t hp h0 ?_ (MG (.t (p:=[z]) (au z) (ax _) l1 h) (λx hx=>H x (hg.2.2 x (hr x hx))) ?_)
   ·show (dS false r++([Wi.t z]++st)).length<=600;rw[ae];exact ac (be (ac qH (ci 2 TN:2*r.length<=40)) (aw l0)) (by decide)
   ·show st.length+1+2*r.length+b<=500;rw[bo st.length,bo st.length,bI _ b];exact ac (aK (aK (ac (aK (ci 2 TN) 1) (by decide)) b) _) hl
  refine .o hQ hS hg l1 ?_;show Ru n σ d T (CN l (l.map f)++q) (zm l++st);unfold CN zm;cases Hq l with
  |none=>exact fin (λU h=>h) hg.2.1 (p:=[tx "["]) rfl (ax 1)
  |some s=>exact (m8▸fin (λU h=>fC h) (ac (jW▸jO _ _) hg.2.1) (p:=[s,tx "("]) rfl (bX 1):)
 |none=>cases hg
 |list=>cases hg
 |_=>exact .w hg (λl e=>by cases e) l1 h
theorem go(k:Nat):∀{x:D},Gd k x->X0 n (50*(k+1)) σ d T (pu k) x:=by
 induction k with
 |zero=>exact λ{x} hg=>goT (f:=λU=>[]) nofun nofun nofun hg
 |succ k ih=>exact λ{x} hg=>goT (λU h=>by cases k<;>exact JX h) (λU h=>by cases k<;>exact h) (λx h=>ih h) hg
noncomputable def abe(σ g:Store)(l:List V)(h:l.length<=lim):Fa (Res V):=fq (l:=(if l.length<=lim then M.new (.list l) else M.no) (σ++g)) (r:=.ok (.obj (σ.length+g.length)) (σ++(g++[.list l]))) ((congrFun (if_pos h) _).trans (by rw[<-ai,<-ae];rfl))
theorem WK(n:Nat)(h:Wr d)(hl:(pu 4 d).flatten.length<=lim):∃g,cl (n+4) 247 [.d d] σ= .ok (tS (pu 4 d).flatten) (σ++g):=by
 refine cps λP9 k9=>?_
 obtain ⟨h1,h2, -⟩:=h;have r:=go (n:=n) (σ:=σ) (d:=d) (T:=(pu 4 d).flatten) 4 h1 (st:=[]) (show 0+250<=500 by decide) .nil
 rw[au] at r;obtain ⟨o,x',y',e,L⟩:=r [] none none rfl (ac (aW (bA _)) h2);have j:mJoin (tS []) [.obj σ.length] (sS σ o [])= .ok (tS (pu 4 d).flatten) (sS σ o []):=by
  rw[<-e];exact joL ((k_get (j:=0)).trans (congrArg (λl=>some (O.list l)) bR)) (e▸hl)
 exact k9 ⟨[cx (o.map .str),cx (wD [])],wc ZW [.v 2 (abe σ [.list []] [.d (Wi.D (.d d))] (aa rfl)),.S 2 L.eq,.V 1 j]⟩
end
noncomputable def WL:List Tx:=[tx "var",tx "constraint",tx "solve",tx "output",tx ":",tx "{",tx "}",tx "..",tx "satisfy",tx "minimize",tx "maximize",tx ",",tx " ",tx "[",tx "]",tx "(",tx ")",tx "true",tx "false"]++((d3 19).map (λk:Nat=>gB ((k:Int) - 9))++(lJ.map Em++(mV.filter mU++mV.map lq)))
noncomputable def vE(l:List Tx):Bool:=l.all λp=>WL.contains p
section
variable{k m:Nat}{d x:Internal.D}{s:Tx}{l r:List Internal.D}{a b ls:List Tx}{late:Bool}{i:Int}
theorem Oj(h:vE a=true)(h':vE b=true):vE (a++b)=true:=vO.trans (by rw[show a.all _=true from h,show b.all _=true from h'];rfl)
theorem WM(h: -9<=i/\i<=9):vE [gB i]=true:=by
 have:=nE (p:=λi=>decide (i<=9)->vE [gB i]) (by decide) (decide_eq_true ⟨h.1,aX h.2 (by decide)⟩)
 exact of_decide_eq_true this (decide_eq_true h.2)
theorem FK{f:D->List Tx}:∀{late},(∀x∈r,vE (f x)=true)->vE (gI late (r.map f))=true:=by
 induction r with
 |nil=>exact λU=>rfl
 |cons x r ih=>exact λ{late} h=>Oj (Oj (by cases late<;>kernel_rfl) (h x (.head _))) (ih λy hy=>h y (.tail _ hy))
theorem Ol{f:D->List Tx}{Q:D->Prop}(hS:∀s,Q (.str s)->s∈mV)(H:∀x,Q x->vE (f x)=true)(h:FJ Q d):vE (yz f d)=true:=by
 cases d with
 |none=>cases h
 |list=>cases h
 |bool b=>cases b<;>kernel_rfl
 |int i=>exact WM h
 |str s=>exact of_map (f:=λs=>vE [lq s]) (g:=λU=>true) h
 |tup l=>
  obtain ⟨h1, -,h3⟩:=h;show vE (CN l (l.map f))=true;unfold CN;cases e:Hq l with
  |none=>exact Oj (Oj (rfl) (FK λx hx=>H x (h3 x hx))) (rfl)
  |some s=>
   have hs:vE [s]=true:=by
    cases l with
    |nil=>cases e
    |cons x r=>cases x with
     |str t=>cases e;exact of_map (l:=mV.filter mU) (f:=λs=>vE [s]) (g:=λU=>true) (d_.mpr ⟨hS s (h3 _ (.head _)),h1⟩)
     |_=>cases e
   exact Oj (Oj (Oj hs (rfl)) (m8▸FK λx hx=>H x (h3 x (fC hx)))) (rfl)
theorem AP(k:Nat):∀{d:D},Gd k d->vE (pu k d)=true:=by
 induction k with
 |zero=>exact λh=>Ol nofun nofun h
 |succ k ih=>exact λh=>Ol (λU h=>by cases k<;>exact h) (λx h=>ih h) h
theorem vE.all{P:Tx->Bool}(h:vE a=true)(hP:WL.all P=true:=by kernel_rfl):a.all P=true:=aJ.mpr λp hp=>aJ.mp hP p (iz.mp (aJ.mp h p hp))
theorem AQ{α:Type}{ls:List (List α)}(h:∀p∈ls,p.length<=m):ls.flatten.length<=ls.length*m:=by
 induction ls with
 |nil=>exact aZ _
 |cons p ls ih=>
  rw[dJ,ae,bP,lj,bI];exact be (ih λq hq=>h q (.tail _ hq)) (h p (.head _))
theorem mz(h:Wr d):(pu 4 d).flatten.length<=500:=h.2.2
section
variable{M:LM}{v:Vr}{it:List Tx}
noncomputable def Itm(it:List Tx):Bool:=vE it&&(b7 it.length 608&&b7 it.flatten.length 518)
theorem Itm.mk(h1:vE it=true)(h2:it.length<=608)(h3:it.flatten.length<=518):Itm it=true:=by unfold Itm;rw[h1,pD h2,pD h3];rfl
theorem Itm.in(h:Itm it=true):vE it=true:=(aj.mp h).1
theorem Itm.cnt(h:Itm it=true):it.length<=608:=aa (aj.mp (aj.mp h).2).1
theorem Itm.len(h:Itm it=true):it.flatten.length<=518:=aa (aj.mp (aj.mp h).2).2
theorem Om{p:List Tx}(h:Wr d)(hp:vE p=true)(h2:p.length<=2)(h3:p.flatten.length<=11):Itm (p++pu 4 d)=true:=
 Itm.mk (Oj hp (AP 4 h.1)) (by rw[ae];exact ac (be h2 h.2.1) (by decide)) (by rw[bJ,ae];exact ac (be h3 h.2.2) (by decide))
theorem LM.Ok.itm(h:M.Ok):∀it∈M.items,∃b,it=b++k_/\Itm b=true:=by
 intro it hi;rcases bf.mp hi with hi|hi
 ·obtain ⟨v,hv,rfl⟩:=br.mp hi;exact ⟨_,rfl,d5.mp (of_map (f:=λs=>ij.map λr=>Itm ([tx "var",tx " "]++JY r++[tx ":",tx " ",Em s])) (g:=λU=>ij.map λU=>true) (h.vs v hv).1) v.2 (h.vs v hv).2⟩
 rcases bf.mp hi with hi|hi
 ·obtain ⟨v,hv,rfl⟩:=br.mp hi;exact ⟨_,rfl,Om (h.ts v hv) (rfl) (ax 2) (aa (rfl))⟩
 cases hi with
 |head=>
  refine ⟨_,rfl,?_⟩;have q k (hk:(∀j:Fin 70,(decide (9<(j.val:Int) - 9)||Itm [tx "solve",tx " ",k,tx " ",gB ((j.val) - 9)])=true)/\Itm [tx "solve",tx " ",k]=true):Itm ([tx "solve",tx " ",k]++(M.gv.elim [] λi=>[tx " ",gB i]))=true:=by
   have:=h.gv;cases e:M.gv with
   |none=>exact hk.2
   |some i=>exact (cw.mp (nE (p:=λi=>decide (9<i)||Itm [tx "solve",tx " ",k,tx " ",gB i]) hk.1 (decide_eq_true ⟨(this i e).1,aX (this i e).2 (by decide)⟩))).elim (λq=>absurd (this i e).2 (se.mpr (of_decide_eq_true q))) id
  rcases h.gk with e|e|e<;>rw [e]
  ·exact q _ (by decide+kernel)
  ·exact q _ (by decide+kernel)
  ·exact q _ (by decide)
 |tail U hi=>
  cases hi with
  |head=>exact ⟨_,rfl,Om h.sh (rfl) (ax 2) (aa (rfl))⟩
  |tail U hi=>cases hi
noncomputable def LM.text(M:LM):Tx:=(M.items.map fB).flatten
theorem LM.Ok.len(h:M.Ok):M.text.length<=11440:=by
 refine cps λP9 k9=>?_
 have l:(M.items.map fB).length<=22:=by
  simp only [af,LM.items,ae,ae,af,af];exact be h.vl (aB h.tl 2)
 refine k9 ?_;refine ac (AQ λp hp=>?_) (cV 520 l)
 obtain ⟨it,hi,rfl⟩:=br.mp hp;obtain ⟨b,rfl,hb⟩:=h.itm it hi;simp only [bJ,ae];exact aB (Itm.len hb) 2
end
end
section
noncomputable def Wz(L:List XS)(k:Nat)(C:nj)(ρ:Env)(σ:Store)(R:Res V):Prop:=fin ((zz (L.drop k)).m C ρ σ)=R
theorem Wz.call(e:(aQ TT (m+1)).call i=dI ⟨n,k,(zz L).m⟩ (aQ TT m))(h:Wz L 0 (aQ TT m) (j9 vs k) σ R)(hl:vs.length=n:=by rfl):(aQ TT (m+1)).call i vs σ=R:=by
 rw[e];exact (if_pos hl).trans h
theorem Wz.go(j:Nat)(h:(zz ((L.drop k).take j)).m C ρ σ= .ok .next ρ' σ')(h2:Wz L (k+j) C ρ' σ' R):Wz L k C ρ σ R:=by
 refine (congrArg fin ?_).trans h2;rw[<-jF j (L.drop k),Ja,h,List.drop_drop];rfl
end
noncomputable def tw(s:Tx)(rs:List Rg):Tx:=tx "var "++((JY rs).flatten++(tx ": "++(Em s++tx ";")))
noncomputable def yB(d:D):Tx:=tx "constraint "++((pu 4 d).flatten++tx ";")
noncomputable def r7(k:Tx)(v:Option Int):Tx:=tx "solve "++(k++((v.elim [] λi=>tx " "++gB i)++tx ";"))
noncomputable def Ep(d:D):Tx:=tx "output "++((pu 4 d).flatten++tx ";")
noncomputable abbrev jL(rows:List Tx):O:=cx (rows.map .str)
noncomputable abbrev fEnv(f r:Nat)(a b c d e:Option V):Env:=[some (.obj f),some (.obj r),a,b,c,d,e]
section
variable{σ A B g:Store}{rows:List Tx}{rs:List Rg}
noncomputable def WN(hr:r=σ.length)(rows:List Tx)(g:Store):Fa (Res V):=fq (l:=ww 1 (.obj r) (M.ret (.obj r)) (σ++jL rows::g)) (r:=.ok (.obj r) (σ++jL rows::g)) (by subst hr;exact (ym σ (g:=jL rows::g) (j:=0) (l:=rows.map .str) rfl).h)
noncomputable def WO(hr:r=σ.length)(s:Tx)(g:Store)(h:rows.length<=100):Fa (Res V):=fq (l:=mAppend (.obj r) [tS s] (σ++jL rows::g)) (r:=.ok (.d .none) (σ++jL (rows++[s])::g)) (by
 subst hr;rw[jL,jL,aH];exact (AN σ (.str s) (g:=jL rows::g) (j:=0) (l:=rows.map .str) rfl (by rw[af];exact ac h (show 100<=lim from aa rfl))).h)
theorem b1f(hr:r=σ.length)(h1:s∈lJ)(h2:rs∈ij)(hl:rows.length<=100):
  L259.m (aQ TT (n+1)) (fEnv f r (some (tS s)) (some (.d (mW rs))) c d e) (σ++jL rows::g)= .ok .next (fEnv f r (some (tS s)) (some (.d (mW rs))) c d e) (σ++jL (rows++[tw s rs])::g):=by
 have q:=of_map (f:=λs=>ij.map λrs=>L259.x (aQ TT (n+1)) (fEnv f r (some (tS s)) (some (.d (mW rs))) c d e) (σ++jL rows::g) 0 [.v 0 (WN hr rows g),.v (cond (mU s) 11 12) (WO hr (tw s rs) g hl)] kS kSx)
  (g:=λs=>ij.map λrs=>some ([Qn.v (ww 1 (.obj r) (M.ret (.obj r)) (σ++jL rows::g)),Qn.v (mAppend (.obj r) [tS (tw s rs)] (σ++jL rows::g))],.ok .next (fEnv f r (some (tS s)) (some (.d (mW rs))) c d e) (σ++jL (rows++[tw s rs])::g))) h1
 exact ws [.v 0 (WN hr rows g),.v (cond (mU s) 11 12) (WO hr (tw s rs) g hl)] (d5.mp q rs h2)
theorem b2f(hr:r=σ.length)(h:Wr t)(hl:rows.length<=100):∃g',L259a.m (aQ TT (n+4)) (fEnv f r a b (some (.d t)) d e) (σ++jL rows::g)= .ok .next (fEnv f r a b (some (.d t)) d e) (σ++jL (rows++[yB t])::g'):=by
 refine (WK (σ:=σ++jL rows::g) n h (rj (mz h))).elim λg' q=>?_
 simp only [ai] at q;refine ⟨g++g',?_⟩;exact ws [.v 0 (WN hr rows g),.V 1 q,.m 0 (QM (rj (mz h))),.m 0 (jS (rj (yw (acc:=tx "constraint ") (aa (m:=20) rfl) (mz h)))),.m 0 (jS (rj (yw (yw (acc:=tx "constraint ") (aa (m:=20) rfl) (mz h)) (aa (n:=(tx ";").length) (m:=1) rfl)))),.v 0 (WO hr (yB t) (g++g') hl)]
theorem Oo{α:Type}{val:α->D}{txt:α->Tx}{T:XT}{L:XS}{P:Env->Prop}{l:List α}(hb:∀x∈l,∀ρ g rows,P ρ->rows.length<=100->∃ρ₁ ρ₂ g',mT T (.d (val x)) C ρ (σ++jL rows::g)= .ok .next ρ₁ (σ++jL rows::g)/\L.m C ρ₁ (σ++jL rows::g)= .ok .next ρ₂ (σ++jL (rows++[txt x])::g')/\P ρ₂):
  ∀{ρ g rows},P ρ->rows.length+l.length<=100->∃ρ' g',jf ((l.map val).map .d) (mT T) L.m C ρ (σ++jL rows::g)= .ok .next ρ' (σ++jL (rows++l.map txt)::g')/\P ρ':=by
 induction l with
 |nil=>exact λ{ρ g rows} hp _=>⟨ρ,g,by show _=RS.ok .next ρ (σ++jL (rows++[])::g);rw[au];rfl,hp⟩
 |cons x l ih=>
  intro ρ g rows hp hl;refine cps λP9 k9=>?_
  obtain ⟨ρ₁,ρ₂,g1,h1,h2,h3⟩:=hb x (.head _) ρ g rows hp (ac (ak _ _) hl);obtain ⟨ρ',g',h4,h5⟩:=ih (λy hy=>hb y (.tail _ hy)) h3 (rows:=rows++[txt x]) (by rw[ae,bo,bI [txt x].length];exact hl)
  refine k9 ?_;refine ⟨ρ',g',?_,h5⟩;rw[cD,cD,kL h1 h2,h4,ai];rfl
end
section
variable{σ A B g h h1:Store}{vs ts ds:List D}
noncomputable def atF(A:Store)(k:Nat)(h0:h[0]? =some (.inst 0 fs))(ha:mL fs k=some v):Fa (Res V):=fq (l:=BD k (.obj A.length) ((A++h)++g)) (r:=.ok v ((A++h)++g)) (by
 rw[ai];show O.eH (A++(h++g))[A.length]? (λU l=>M.opt (mL l k)) M.no _=_
 rw[show (A++(h++g))[A.length]? =(h++g)[0]? from k_get (j:=0),dG (aL.mp h0).1,h0]
 show M.opt (mL fs k) _=_;rw[ha];rfl)
theorem fzF(h0:h[0]? =some (.inst 0 fs))(ha:mL fs k=some v)(hf:BX v (A++h)= .ok (.d (.list ds)) (A++h1)):BY k (.obj A.length) (A++h)= .ok (.d (.list ds)) (A++h1.set 0 (.inst 0 (oj fs k (.d (.list ds))))):=by
 show NA k A.length (A++h)[A.length]? (A++h)=_;rw[show (A++h)[A.length]? =h[0]? from k_get (j:=0),h0]
 show sF (mL fs k) (λv σ=>(BX v σ).bind λd σ'=>.ok d (σ'.set A.length (.inst 0 (oj fs k d)))) _=_
 rw[ha];show (BX v _).bind _=_;rw[hf];exact congrArg (Res.ok _) (k_set (j:=0))
theorem fzL(hj:h[j]? =some (cx ds)):BX (.obj (A.length+j)) (A++h)= .ok (.d (.list ds)) (A++h.set j .dead):=(tm (k_get.trans hj)).trans (congrArg (Res.ok _) k_set)
noncomputable abbrev CR(v w:V)(gl sh:D):O:=.inst 0 [(0,v),(1,w),(2,.d gl),(3,.d sh)]
noncomputable def Oq(A:Store)(w:V)(z:O)(ts:List D):Prop:=w= .obj (A.length+2)/\z=cx ts\/w= .d (.list ts)
theorem fz0(A B:Store)(w:V)(z:O)(gl sh:D)(vs:List D)(g:Store):BY 0 (.obj A.length) ((A++CR (.obj (A.length+1)) w gl sh::cx vs::z::B)++g)= .ok (.d (.list vs)) ((A++CR (.d (.list vs)) w gl sh:: .dead::z::B)++g):=by
 simp only [ai,ai];exact fzF (h:=CR (.obj (A.length+1)) w gl sh::cx vs::z::(B++g)) rfl rfl (fzL (j:=1) rfl)
theorem abh(B:Store)(v:V)(y:O)(gl sh:D)(hw:Oq A w z ts):∃z',∀g,BY 1 (.obj A.length) ((A++CR v w gl sh::y::z::B)++g)= .ok (.d (.list ts)) ((A++CR v (.d (.list ts)) gl sh::y::z'::B)++g):=by
 rcases hw with ⟨rfl,rfl⟩|rfl
 ·refine ⟨.dead,λg=>?_⟩
  simp only [ai,ai];exact fzF (h:=CR v (.obj (A.length+2)) gl sh::y::cx ts::(B++g)) rfl rfl (fzL (j:=2) rfl)
 ·refine ⟨z,λg=>?_⟩
  simp only [ai];exact fzF (h:=CR v (.d (.list ts)) gl sh::y::z::(B++g)) (v:=.d (.list ts)) rfl rfl rfl
end
section
variable{A B g:Store}{M:LM}
noncomputable def LM.rws(M:LM):List Tx:=M.vs.map (λv:Vr=>tw v.1 v.2)++M.ts.map yB++[r7 M.gk M.gv]++[Ep M.sh]
theorem zq{p x e:List Tx}:(p++x++e).flatten=p.flatten++(x.flatten++e.flatten):=by rw[bJ,bJ,ai]
theorem zu(h:M.Ok):M.items.map fB=M.rws.map (·++tx "\n"):=by
 unfold LM.items LM.rws;simp only [aH,aH,aH,aH,aH,bR,bR,bR,bR,ai (kg _ M.vs),ai (kg _ M.vs),ai (kg _ M.ts)];have e1:M.vs.map (fB∘yA)=M.vs.map ((·++tx "\n")∘λv=>tw v.1 v.2):=hO λv hv=>
  d5.mp (of_map (f:=λs=>ij.map λr=>(Mw (Em s) r).flatten) (g:=λs=>ij.map λr=>tw s r++tx "\n") (h.vs v hv).1) v.2 (h.vs v hv).2
 have e3:(xy M.gk M.gv).flatten=r7 M.gk M.gv++tx "\n":=zq.trans (by
  simp only [r7,ai,ai,ai];cases M.gv with
  |none=>rw [show ([tx "solve",tx " ",M.gk]).flatten=tx "solve "++M.gk from congrArg (tx "solve "++·) (au _),ai];rfl
  |some i=>rw [show ([tx "solve",tx " ",M.gk]).flatten=tx "solve "++M.gk from congrArg (tx "solve "++·) (au _),ai];exact congrArg (λx=>tx "solve "++(M.gk++(tx " "++x++tx ";\n"))) (au (gB i)))
 simp only [e1,show kg (fB∘vD) M.ts=kg ((·++tx "\n")∘yB) M.ts from hO λd U=>(λd=>zq.trans (by rw[yB,ai,ai];rfl):∀d,(vD d).flatten=yB d++tx "\n") d]
 exact congrArg (_++·) (congrArg (_++·) (show [(xy M.gk M.gv).flatten,(Eo M.sh).flatten]=[r7 M.gk M.gv++tx "\n",Ep M.sh++tx "\n"] by rw[e3,(show (Eo M.sh).flatten=Ep M.sh++tx "\n" from zq.trans (by rw[Ep,ai,ai];rfl))]))
theorem J1(h:rows≠[]):pO (tx "\n") rows++tx "\n"=(rows.map (·++tx "\n")).flatten:=by
 induction rows with
 |nil=>exact absurd rfl h
 |cons x r ih=>cases r with
  |nil=>exact (au _).symm
  |cons y r=>exact ((ai ..).trans (congrArg (_++·) (ih (jV _ _))):)
theorem LM.Rf:M.rws≠[]:=λe=>nomatch (f9.mp e).2
theorem FL(h:M.Ok):pO (tx "\n") M.rws++tx "\n"=M.text:=by
 unfold LM.text;rw[zu h,J1 LM.Rf]
theorem Rh:rL rows+rows.length*1=(rows.map (·++tx "\n")).flatten.length:=by
 simp only [kO,bR]
 induction rows with
 |nil=>rfl
 |cons x r ih=>
  show x.length+rL r+(r.length+1)*1=(x++tx "\n").length+(r.map _).sum;rw[<-ih,ae,lj,bI _ 1];exact Nat.add_add_add_comm ..
theorem MH(h:M.Ok):M.gk.length<=8/\∀i,M.gv=some i->r4 i=true:=⟨by rcases h.gk with e|e|e<;>rw [e]<;>decide+kernel,λi e=>decide_eq_true ⟨(h.gv i e).1,aX (h.gv i e).2 (by decide)⟩⟩
theorem abi(hr:r=σ.length):(σ++o::g)[r]? =some o:=by subst hr;exact k_get (j:=0)
theorem joN(h:σ[k]? =some (jL rows))(hl:rL rows+rows.length*sep.length<=lim):mJoin (tS sep) [.obj k] σ= .ok (tS (pO sep rows)) σ:=by
 show sF (ofList σ k) (mM sep) σ=_;rw[show ofList σ k=some (rows.map .str) by unfold ofList;rw[h];show lD (kg .d (rows.map .str))=_;rw[te,li]]
 show mM sep (rows.map .str) σ=_;unfold mM;rw[pV];exact congrFun (if_pos hl) σ
noncomputable def abj{r:Nat}{σ:Store}(hr:r=σ.length):Fa (Res V):=fq (l:=(if ([]:List V).length<=lim then Internal.M.new (.list []) else Internal.M.no) σ) (r:=.ok (.obj r) (σ++jL []::[])) (by subst hr;rfl)
noncomputable abbrev Ot(M:LM):Internal.D:=.tup [.str M.gk,CO M.gv]
noncomputable abbrev C9(A B:Store)(M:LM)(v w:V)(y z:O):Store:=A++CR v w (Ot M) M.sh::y::z::B
theorem WQ(n:Nat)(h:M.Ok)(hw:Oq A w z M.ts):∃X,cl (n+5) 259 [.obj A.length] (C9 A B M (.obj (A.length+1)) w (cx (M.vs.map Vr.D)) z)= .ok (tS M.text) X/\A<+:X:=by
 refine cps λP9 k9=>(MH h).elim λg1' g2'=>?_
 have hr {x y z:O}:A.length+(B.length+3)=(A++x::y::z::B).length:=(ae (bs:=x::y::z::B)).symm;obtain ⟨ρ1,g1,l1,a1,b1,rfl⟩:=Oo (C:=aQ TT (n+4)) (σ:=C9 A B M (.d (.list (M.vs.map Vr.D))) w .dead z) (T:=up [uv 2,uv 3]) (P:=λρ=>∃a b,ρ=fEnv A.length (A.length+(B.length+3)) a b none none none) (val:=Vr.D)
  (λv hv ρ g rows ⟨a,b,e⟩ hl=>⟨_,_,_,by subst e;rfl,b1f hr (h.vs v hv).1 (h.vs v hv).2 hl,⟨_,_,rfl⟩⟩) (g:=[]) (rows:=[]) ⟨none,none,rfl⟩ (ac (aW (bA _)) (ac h.vl (aa rfl)))
 refine (abh B (.d (.list (M.vs.map Vr.D))) .dead (Ot M) M.sh hw).elim λz' f1=>?_
 have l2:([]++M.vs.map (λv:Vr=>tw v.1 v.2)).length+M.ts.length<=20:=by rw[vL,af];exact be h.vl h.tl
 obtain ⟨ρ2,g2,l3,c2,rfl⟩:=Oo (σ:=C9 A B M (.d (.list (M.vs.map Vr.D))) (.d (.list M.ts)) .dead z') (T:=uv 4) (P:=λρ=>∃c,ρ=fEnv A.length (A.length+(B.length+3)) a1 b1 c none none) (l:=M.ts)
  (λt ht ρ g rows ⟨c,e⟩ hl=>by
   obtain ⟨g',q⟩:=b2f (n:=n) hr (h.ts t ht) hl;exact ⟨_,_,g',by subst e;rfl,q,⟨_,rfl⟩⟩) (g:=g1) ⟨none,rfl⟩ (ac l2 (aa rfl))
 rw[li] at l3;have l4:([]++M.vs.map (λv:Vr=>tw v.1 v.2)++M.ts.map yB).length<=20:=by rw[ae,af];exact l2
 have l5:([]++M.vs.map (λv:Vr=>tw v.1 v.2)++M.ts.map yB++[r7 M.gk M.gv]).length<=100:=by rw[ae];exact ac (aB l4 1) (aa rfl)
 have er:[]++M.vs.map (λv:Vr=>tw v.1 v.2)++M.ts.map yB++[r7 M.gk M.gv]++[Ep M.sh]=M.rws:=rfl
 generalize []++M.vs.map (λv:Vr=>tw v.1 v.2)++M.ts.map yB=nF at*
 refine (WK (σ:=C9 A B M (.d (.list (M.vs.map Vr.D))) (.d (.list M.ts)) .dead z'++jL (nF++[r7 M.gk M.gv])::g2) n h.sh (rj (mz h.sh))).elim λg3 q=>?_
 simp only [ai _ (jL (nF++[r7 M.gk M.gv])::g2) g3] at q;have k1:=yw (acc:=tx "solve ") (aa (m:=20) rfl) g1';have js {acc s:Tx} {k:Nat} (h:acc.length<=k) (hs:b7 (k+s.length) lim=true:=by kernel_rfl):(acc++s).length<=lim:=by rw[ae];exact ac (aB h _) (aa hs)
 have s2:(zz ((UD.drop 4).take 1)).m (aQ TT (n+4)) (fEnv A.length (A.length+(B.length+3)) a1 b1 c2 (some (tS M.gk)) (some (.d (CO M.gv)))) (C9 A B M (.d (.list (M.vs.map Vr.D))) (.d (.list M.ts)) .dead z'++jL nF::g2)= .ok .next (fEnv A.length (A.length+(B.length+3)) a1 b1 c2 (some (tS M.gk)) (some (.d (CO M.gv)))) (C9 A B M (.d (.list (M.vs.map Vr.D))) (.d (.list M.ts)) .dead z'++jL (nF++[r7 M.gk M.gv])::g2):=by
  have t1:ww 1 (.obj (A.length+(B.length+3))) _ (C9 A B M (.d (.list (M.vs.map Vr.D))) (.d (.list M.ts)) .dead z'++jL nF::g2)= .ok (.obj (A.length+(B.length+3))) (C9 A B M (.d (.list (M.vs.map Vr.D))) (.d (.list M.ts)) .dead z'++jL nF::g2):=(WN hr nF g2).h;have t2 {s:Tx}:mAppend (.obj (A.length+(B.length+3))) [tS s] (C9 A B M (.d (.list (M.vs.map Vr.D))) (.d (.list M.ts)) .dead z'++jL nF::g2)= .ok (.d .none) (C9 A B M (.d (.list (M.vs.map Vr.D))) (.d (.list M.ts)) .dead z'++jL (nF++[s])::g2):=(WO hr s g2 (ac l4 (aa rfl))).h
  generalize C9 A B M (.d (.list (M.vs.map Vr.D))) (.d (.list M.ts)) .dead z'=σ at*
  generalize A.length+(B.length+3)=r at*
  cases e:M.gv with
  |none=>
   exact ws [.V 0 t1,.m 3 (QM (rj g1')),.m 0 (jS (rj k1)),.m 0 (jS (s:=tx ";") (js k1)),.V 0 (t2 (s:=r7 M.gk none))]
  |some i=>
   rw[show r7 M.gk (some i)=tx "solve "++M.gk++tx " "++gB i++tx ";" by rw[r7,ai,ai,ai];rfl]
   exact ws [.V 0 t1,.m 3 (QM (rj g1')),.m 0 (jS (rj k1)),.m 0 (jS (s:=tx " ") (js k1)),.m 0 (XY (g2' i e)),.m 0 (jS (rj (yw (yw (s:=tx " ") k1 (aa (m:=1) rfl)) (gH (g2' i e)).2))),.m 0 (jS (s:=tx ";") (js (yw (yw (s:=tx " ") k1 (aa (m:=1) rfl)) (gH (g2' i e)).2))),.V 0 (t2 (s:=tx "solve "++M.gk++tx " "++gB i++tx ";"))]
 refine k9 ?_;rw[<-(FL h)];refine ⟨C9 A B M (.d (.list (M.vs.map Vr.D))) (.d (.list M.ts)) .dead z'++jL M.rws::(g2++g3),Wz.call ZX (.go 4 (ws [.v 0 (abj (σ:=C9 A B M (.obj (A.length+1)) w (cx (M.vs.map Vr.D)) z) hr),.V 0 (fz0 A B w z (Ot M) M.sh (M.vs.map Vr.D) [jL []]),.S 0 l1,.V 0 (f1 (jL ([]++M.vs.map λv:Vr=>tw v.1 v.2)::g1)),.S 0 l3,.v 0 (atF A (k:=2) (h:=CR (.d (.list (M.vs.map Vr.D))) (.d (.list M.ts)) (Ot M) M.sh:: .dead::z'::B) (g:=jL nF::g2) rfl rfl)]) (.go 1 s2 ?_)),⟨_,(ai ..).symm⟩⟩
 exact wf [.v 0 (WN (σ:=C9 A B M (.d (.list (M.vs.map Vr.D))) (.d (.list M.ts)) .dead z') hr (nF++[r7 M.gk M.gv]) g2),.v 1 (atF A (k:=3) (h:=CR (.d (.list (M.vs.map Vr.D))) (.d (.list M.ts)) (Ot M) M.sh:: .dead::z'::B) (g:=jL (nF++[r7 M.gk M.gv])::g2) rfl rfl),.V 0 q,.m 0 (QM (rj (mz h.sh))),.m 0 (jS (acc:=tx "output ") (rj (yw (aa (m:=20) rfl) (mz h.sh)))),.m 0 (jS (s:=tx ";") (js (yw (acc:=tx "output ") (aa (m:=20) rfl) (mz h.sh)))),.v 0 (WO (σ:=C9 A B M (.d (.list (M.vs.map Vr.D))) (.d (.list M.ts)) .dead z') hr (Ep M.sh) (g2++g3) l5),.V 1 (joN (σ:=C9 A B M (.d (.list (M.vs.map Vr.D))) (.d (.list M.ts)) .dead z'++jL M.rws::(g2++g3)) (abi hr) (by rw[show (tx "\n").length=1 from rfl,Rh,<-zu h];exact rj h.len)),.m 0 (MA (s:=pO (tx "\n") (nF++[r7 M.gk M.gv]++[Ep M.sh])) (by rw[er,<-ae,(FL h)];exact rj h.len))]
end
noncomputable def wi:Tv->Bool
 | .i _=>true
 | .w _=>true
 |_=>false
noncomputable def Ou:Tx->Bool
 |[]=>true
 |c::_=>!iO Hp c
noncomputable def f1:Tx->Bool
 |[]=>false
 |c::_=>!iO bl c&&c !=37
noncomputable def yC(p:Tx)(d:Tv):Prop:=f1 p=true/\∀t w,(wi d=true->Ou w=true)->Tok t (p++w) (.tok d w)
section
variable{s w p l t:Tx}{c:Nat}{i:Int}
theorem J2(h:s.all (iO l)=true)(hw:∀c x,w=c::x->iO l c=false):(s++w).takeWhile (iO l)=s/\(s++w).dropWhile (iO l)=w:=by
 induction s with
 |nil=>
  cases w with
  |nil=>exact ⟨rfl,rfl⟩
  |cons c w=>exact ⟨lT (ne_true_of_eq_false (hw c w rfl)),gL (ne_true_of_eq_false (hw c w rfl))⟩
 |cons c s ih=>
  refine (aj.mp (h)).elim λh1 h2=>(ih h2).elim λe1 e2=>?_
  exact ⟨(lU h1).trans (congrArg _ e1),(cM h1).trans e2⟩
theorem Ov(h:Ou (c::w)=true):iO Hp c=false:=by
 cases e:iO Hp c with
 |false=>rfl
 |true=>rw [show Ou (c::w)=!iO Hp c from rfl,e] at h;cases h
theorem Ri(h:iO Hp c=false):iO dg c=false:=by
 cases e:iO dg c with
 |false=>rfl
 |true=>exact (of_map (g:=λU=>true) (of_decide_eq_true e)).symm.trans h
theorem J3(h:iO dg c=true):([c]==[34])=false/\([c]==[45])=false:=cS (of_map (f:=λc=>(([c])==[34],([c])==[45])) (g:=λU=>(false,false)) (of_decide_eq_true h))
theorem xE(h:iO lets c=true):([c]==[34])=false/\([c]==[45])=false/\iO dg c=false/\f1 [c]=true:=by
 have q:=of_map (f:=λc=>(([c])==[34],([c])==[45],iO dg c,f1 [c])) (g:=λU=>(false,false,false,true)) (of_decide_eq_true h)
 injection q with a q
 injection q with b q
 injection q with d q
 exact ⟨a,b,d,q⟩
theorem Ow(h:mU s=true):yC s (.w s):=by
 cases s with
 |nil=>cases h
 |cons c x=>
  refine (aj.mp (h)).elim λh1 h2=>(xE h1).elim λa z0=>z0.elim λb z1=>z1.elim λd e=>⟨e,λt w hw=>?_⟩
  refine (J2 (w:=w) h2 λd y e=>by subst e;exact Ov (hw rfl)).elim λe1 e2=>?_
  have k:=Tok.XW (t:=t) (x:=x++w) a b d h1;rw[show c::(x++w)=c::x++w from rfl,e1,e2] at k
  exact k
theorem MJ(w:Tx):tc (s.flatMap vy++34::w)= .ok s w:=by
 induction s with
 |nil=>show tc (34::w)=_;unfold tc;rfl
 |cons c s ih=>
  rw[tJ,ai]
  by_cases h1:c=34
  ·subst h1;show tc (92::34::(s.flatMap vy++34::w))=_;unfold tc;exact congrArg (QR.cons 34) ih
  by_cases h2:c=92
  ·subst h2;show tc (92::92::(s.flatMap vy++34::w))=_;unfold tc;exact congrArg (QR.cons 92) ih
  by_cases h3:c=10
  ·subst h3;show tc (92::110::(s.flatMap vy++34::w))=_;unfold tc;exact congrArg (QR.cons 10) ih
  rw[vy,if_neg h1,if_neg h2,if_neg h3];show tc (c::(s.flatMap vy++34::w))=_;unfold tc;exact (if_neg h3).trans ((if_neg h1).trans ((if_neg h2).trans (congrArg (QR.cons c) ih)))
theorem tpQ(s:Tx):yC (lq s) (.q s):=⟨rfl,λt w U=>by
 have k:=Tok.tc (t:=t) (x:=s.flatMap vy++34::w);simp only [MJ,show 34::(s.flatMap vy++34::w)=lq s++w from congrArg _ (ai (List.flatMap vy s) [34] w).symm] at k
 exact k⟩
theorem He(h:iO L7 c=true):yC [c] (.s [c]):=by
 have q:=of_map (f:=λc=>(([c])==[34],([c])==[45],iO dg c,iO lets c,bH c 46,f1 [c])) (g:=λU=>(false,false,false,false,false,true)) (of_decide_eq_true h)
 injection q with a q
 injection q with b q
 injection q with d q
 injection q with e q
 injection q with f q
 refine ⟨q,λt w U=>.sgn a b d e ?_ h⟩
 cases w with
 |nil=>exact beq_eq_false_iff_ne.mpr nofun
 |cons x w=>exact beq_eq_false_iff_ne.mpr λe=>by cases e;cases f
theorem tpD:yC tf (.s tf):=⟨rfl,λU U U=>.tf⟩
noncomputable def nd(i:Int):Tx:=cond (decide (i<0)) (gB i).tail (gB i)
theorem Rj(h:r4 i=true):(gB i==sg (decide (i<0)) (nd i)&&f1 (gB i)&&(nd i).all (iO dg)&&b7 (nd i).length 640&&!(nd i).isEmpty&&(fS (S (nd i))==some (cond (decide (i<0)) (-i) i)))=true:=
 nE (p:=λi=>gB i==sg (decide (i<0)) (nd i)&&f1 (gB i)&&(nd i).all (iO dg)&&b7 (nd i).length 640&&!(nd i).isEmpty&&(fS (S (nd i))==some (cond (decide (i<0)) (-i) i))) (by decide+kernel) h
theorem tpI(h:r4 i=true):yC (gB i) (.i i):=by
 have h:=Rj h;refine (aj.mp h).elim λh h6=>(aj.mp h).elim λh h5=>(aj.mp h).elim λh h4=>(aj.mp h).elim λh h3=>(aj.mp h).elim λh1 h2=>⟨h2,λt w hw=>?_⟩
 rw[eq_of_beq h1]
 generalize nd i=y at*
 cases y with
 |nil=>cases h5
 |cons c x=>
  refine (J2 (w:=w) h3 λd y e=>by subst e;exact Ri (Ov (hw rfl))).elim λe1 e2=>?_
  have hc:=(aj.mp (h3)).1;refine (J3 hc).elim λq1 q2=>?_
  have num {b}:Cw (decide (i<0)) (c::x++w) b= .tok (.i i) w:=by
   unfold Cw;rw[ds,e1,e2];refine (if_neg (jV _ _)).trans ((if_pos (aa h4)).trans ?_);rw[eq_of_beq h6];cases decide (i<0) with
   |true=>exact congrArg (λi=>TR.tok (.i i) w) (Int.neg_neg i)
   |false=>rfl
  have k:=@Tok.num t (decide (i<0)) (c::x++w);rw[num] at k
  cases e:decide (i<0)<;>rw [e] at k
  ·exact k q2 λU=>⟨c,x++w,rfl,q1,hc⟩
  ·exact k rfl nofun
end
noncomputable abbrev r8:List Tx:=[tx " ",tx "\n",tx " % so; it is\n",tx "\t ",tx "  "]
noncomputable def J4(p b:Tx):Prop:=cond (f1 p) (b=p\/b=p++tx " ") (b∈r8)
noncomputable def Sp:List Tx->Tx->Prop
 |[],u=>u=[]
 |p::ps,u=>∃b v,u=b++v/\Sp ps v/\J4 p b
noncomputable def MK(ps:List Tx):Bool:=ps.all λp=>f1 p||r8.contains p
noncomputable def J5:List Tx->Bool
 |[]=>false
 |p::_=>!p.isEmpty&&Ou p
noncomputable def R1:List Tx->Bool
 |[]=>false
 |p::_=>f1 p
noncomputable def At(F:dA)(k:Tk)(S:dA):Prop:=∀k',ez k' F= .ok (.d k'.D) k S
section
variable{t u v w p b q x:Tx}{ps qs:List Tx}{d:Tv}{S F:dA}{k:Tk}
theorem Sp.plain(h:MK ps=true):Sp ps ps.flatten:=by
 induction ps with
 |nil=>rfl
 |cons p ps ih=>
  refine (aj.mp (show ((f1 p||r8.contains p)&&MK ps)=true from h)).elim λh1 h2=>⟨p,_,rfl,ih h2,?_⟩
  unfold J4;cases e:f1 p with
  |true=>exact .inl rfl
  |false=>rw [e] at h1;exact iz.mp h1
theorem Sp.XZ(h:Sp ps u)(h2:Sp qs v):Sp (ps++qs) (u++v):=by
 induction ps generalizing u with
 |nil=>cases h;exact h2
 |cons p ps ih=>
  obtain ⟨b,z,rfl,h3,h4⟩:=h;exact ⟨b,z++v,ai ..,ih h3,h4⟩
theorem FN(h:f1 p=true):ie (p++w) (p++w):=by
 cases p with
 |nil=>cases h
 |cons c x=>
  refine (aj.mp h).elim λh1 h2=>?_
  have e:(c::x++w).dropWhile (iO bl)=c::x++w:=gL λe=>by rw[e] at h1;cases h1
  have:=ie.stop (by rw[e];exact λe=>by rw[(c6 e).1] at h2;cases h2)
  rwa [e] at this
theorem u5{c:Nat}(hc:iO bl c=true)(h:ie w v):ie (c::w) v:=by
 cases h with
 |stop q=>rw [<-(cM hc)] at q⊢;exact .stop q
 |more q r=>exact .more ((cM hc).trans q) r
theorem WR(hb:b∈r8)(h:ie w v):ie (b++w) v:=by
 rcases aN.mp hb with rfl|hb
 ·exact u5 rfl h
 rcases aN.mp hb with rfl|hb
 ·exact u5 rfl h
 rcases aN.mp hb with rfl|hb
 ·exact u5 rfl (.more (x:=tx " so; it is\n"++w) (rfl) (by rw[show (tx " so; it is\n"++w).dropWhile rW=10::w by kernel_rfl];exact u5 rfl h))
 rcases aN.mp hb with rfl|hb
 ·exact u5 rfl (u5 rfl h)
 obtain rfl:=aA.mp hb;exact u5 rfl (u5 rfl h)
theorem Sm.pre(hs:∀v,ie w v->ie (b++w) v)(hu:b++w<:+t)(h:Sm t w S):Sm t (b++w) S:=by
 cases h with
 |fin U q=>exact .fin hu (hs _ q)
 |bad U q r=>exact .bad hu (hs _ q) r
 |cons U q r m=>exact .cons hu (hs _ q) r m
theorem Sm.tok(hp:yC p d)(hw:wi d=true->Ou w=true)(hu:p++w<:+t)(h:Sm t w S):Sm t (p++w) (.cons ⟨d,dV t (p++w)⟩ S):=by
 obtain ⟨h1,h2⟩:=hp;cases p with
 |nil=>exact nomatch h1
 |cons c x=>exact .cons hu (FN h1) (h2 t w hw) h
theorem WS(h:J5 ps=true)(hs:Sp ps u):Ou (u++w)=true:=by
 cases ps with
 |nil=>cases h
 |cons p ps=>
  obtain ⟨b,v,rfl, -,hf⟩:=hs;cases p with
  |nil=>cases h
  |cons c x=>
   unfold J4 at hf;cases e:f1 (c::x)<;>rw [e] at hf
   ·rw[ai];exact of_map (f:=λb=>Ou (b++(v++w))) (g:=λU=>true) hf
   ·rcases hf with rfl|rfl<;>exact h
theorem AR(k:Tk)(S:dA):At (.cons k S) k S:=λU=>rfl
inductive Rt(t v:Tx)(e:Bool)(Z:Tk->dA->Prop):Prop
 |mk {F:dA} {k:Tk} {S:dA}:Sm t v F->At F k S->(e=true->k.p=dV t v)->Z k S->Rt t v e Z
theorem Rt.el{t v:Tx}{e:Bool}{Z:Tk->dA->Prop}{b9:Prop}(h9:Rt t v e Z)(k9:∀{F:dA} {k:Tk} {S:dA},Sm t v F->At F k S->(e=true->k.p=dV t v)->Z k S->b9):b9:=Rt.rec k9 h9
noncomputable def Rq(t w:Tx)(q:List Tx)(Z:Tk->dA->Prop):Prop:=∀u,Sp q u->u++w<:+t->Rt t (u++w) (R1 q) Z
variable{Z Z':Tk->dA->Prop}{e:Bool}
theorem Rq.nil(h:Rt t w false Z):Rq t w [] Z:=λu hs U=>by cases hs;exact h
theorem Rt.mono(h:Rt t w e Z')(f:∀k S,Z' k S->Z k S):Rt t w e Z:=by cases h with|mk m a e z=>exact ⟨m,a,e,f _ _ z⟩
theorem Rt.tok(hp:yC p d)(hn:wi d=true->Ou w=true)(hu:p++w<:+t)(f:∀F k S,At F k S->Z' k S->Z ⟨d,dV t (p++w)⟩ F)(h:Rt t w e Z'):Rt t (p++w) true Z:=h.el λm a U z=>⟨.tok hp hn hu m,AR _ _,λU=>rfl,f _ _ _ a z⟩
theorem Rt.bl(hb:b∈r8)(hu:b++w<:+t)(h:Rt t w e Z):Rt t (b++w) false Z:=h.el λm a U z=>⟨.pre (λv=>WR hb) hu m,a,nofun,z⟩
theorem Rq.mono(h:Rq t w ps Z')(f:∀k S,Z' k S->Z k S):Rq t w ps Z:=λu hs hu=>(h u hs hu).mono f
theorem Rq.tok(hp:yC p d)(hn:wi d=true->J5 ps=true)(f:∀P F k S,At F k S->Z' k S->Z ⟨d,P⟩ F)(h:Rq t w ps Z'):Rq t w (p::ps) Z:=λu hs hu=>by
 obtain ⟨b,v,rfl,hs,hf⟩:=hs;rw[ai] at hu⊢;have g:=h v hs ((cG _ _).trans hu);unfold J4 at hf
 rw[hp.1] at hf;rw[show R1 (p::ps)=true from hp.1]
 rcases hf with rfl|rfl
 ·exact g.tok hp (λe=>WS (hn e) hs) hu (f _)
 ·rw[ai] at hu⊢;exact (g.bl (.head _) ((cG p _).trans hu)).tok hp (λU=>rfl) hu (f _)
theorem Rq.bl(hp:f1 p=false)(h:Rq t w ps Z):Rq t w (p::ps) Z:=λu hs hu=>by
 obtain ⟨b,v,rfl,hs,hf⟩:=hs;rw[ai] at hu⊢;unfold J4 at hf;rw[hp] at hf;rw[show R1 (p::ps)=false from hp]
 exact (h v hs ((cG _ _).trans hu)).bl hf hu
end
section
variable(D0:D)(Z:Tk->dA->Prop)
inductive Hf(ph:Ph)(fs:List Frame)(k:Tk)(S:dA):Prop
 |mk {k2:Tk} {S2:dA}:PD ph fs k S (.ok (.d D0) k2 S2)->Z k2 S2->Hf ph fs k S
inductive PO(f:Frame)(fs:List Frame)(k:Tk)(S:dA):Prop
 |mk {ph:Ph} {FA:List Frame} {k2:Tk} {S2:dA}:CA f fs k S= .ok (ph,FA) k2 S2->Hf D0 Z ph FA k2 S2->PO f fs k S
inductive PW(f:Frame)(fs:List Frame)(k:Tk)(S:dA):Prop
 |mk {k2:Tk} {S2:dA}:j_ k [40]=true->At S k2 S2->PO D0 Z f fs k2 S2->PW f fs k S
end
noncomputable def nc(k:Tk):Prop:=j_ k [41]=false/\j_ k [93]=false
noncomputable abbrev ZA(D0:D)(Z:Tk->dA->Prop)(x:D)(fs:List Frame)(k:Tk)(S:dA):Prop:=j_ k [40]=false/\Hf D0 Z (some x) fs k S
noncomputable abbrev ZN(D0:D)(Z:Tk->dA->Prop)(fs:List Frame)(k:Tk)(S:dA):Prop:=nc k/\Hf D0 Z none fs k S
section
variable{D0:D}{Z:Tk->dA->Prop}{t w p s:Tx}{q:List Tx}{fs FA:List Frame}{k k':Tk}{S S' F:dA}{ph VP:Ph}{x y:D}{d:Tv}{acc r l:List D}{z:Tx}{b:Nat}{f:D->List Tx}
theorem Hf.up(h:Hf D0 Z VP FA k' S')(g:∀{o},PD VP FA k' S' o->PD ph fs k S o):Hf D0 Z ph fs k S:=by cases h with|mk a z=>exact ⟨g a,z⟩
theorem mX{n:Nat}(h:n<=100):n<lim:=bi h (aa rfl)
theorem Hr{α:Type}{g:V->Tk->dA->Out α}(a:At F k' S')(k:Tk):(ez k F).bind g=g (.d k.D) k' S':=by rw[a k];rfl
theorem Rq.atom(hp:yC p d)(h1:j_ ⟨d,0⟩ [91]=false/\nc ⟨d,0⟩)(h2:zo d=some x)(hl:fs.length<=100)(hn:J5 q=true)(h:Rq t w q (ZA D0 Z x fs)):Rq t w (p::q) (ZN D0 Z fs):=
 .tok hp (λU=>hn) (λP F k S a ⟨z1,z2⟩=>⟨h1.2,z2.up (.op (mX hl) (by
  unfold oz;simp only [Hr a,z1,jk,show j_ ⟨d,P⟩ [91]=false from h1.1,h2];rfl))⟩) h
theorem Rq.comma(hl:fs.length<=100)(ha:acc.length<=100)(hz:z.length<=100)(h:Rq t w q (ZN D0 Z ((acc++[x],z)::fs))):Rq t w (tx ","::tx " "::q) (ZA D0 Z x ((acc,z)::fs)):=
 .tok (He (c:=44) rfl) nofun (λP F k S a z=>⟨rfl,z.2.up (.cl (mX hl) (mX ha) hz (Hr a _))⟩) (.bl rfl h)
theorem oE(a:At F k' S')(h:j_ k s=true):eP s k F= .ok (.d .none) k' S':=by
 unfold eP;exact h▸Hr a k
theorem qI{f:Frame}(a:At F k' S')(hc:j_ k [44]=false)(h:j_ k f.2=true):gW f fs k F= .ok (some (.tup f.1),fs) k' S':=by
 unfold gW;simp only [hc,oE a h];rfl
theorem Rq.close(hz:z=[41]\/z=[93])(hl:fs.length<=100)(ha:acc.length<=100)(h:Rq t w q (Hf D0 Z (some (.tup (acc++[x]))) fs)):Rq t w (z::q) (ZA D0 Z x ((acc,z)::fs)):=by
 rcases hz with rfl|rfl
 ·exact .tok (He rfl) nofun (λP F k S a z=>⟨rfl,z.up (.cl (mX hl) (mX ha) (aa rfl) (qI a rfl rfl))⟩) h
 ·exact .tok (He rfl) nofun (λP F k S a z=>⟨rfl,z.up (.cl (mX hl) (mX ha) (aa rfl) (qI a rfl rfl))⟩) h
theorem Rq.empty(hz:z=[41]\/z=[93])(h:Rq t w q (Hf D0 Z (some (.tup acc)) fs)):Rq t w (z::q) (PO D0 Z (acc,z) fs):=by
 rcases hz with rfl|rfl
 ·exact .tok (He rfl) nofun (λP F k S a z=>⟨qI (k:=⟨.s [41],P⟩) a rfl rfl,z⟩) h
 ·exact .tok (He rfl) nofun (λP F k S a z=>⟨qI (k:=⟨.s [93],P⟩) a rfl rfl,z⟩) h
noncomputable def DG(t w:Tx)(D0:D)(Z:Tk->dA->Prop)(f:D->List Tx)(b:Nat)(x:D):Prop:=∀{q fs},fs.length+b<=100->J5 q=true->Rq t w q (ZA D0 Z x fs)->Rq t w (f x++q) (ZN D0 Z fs)
theorem Rq.list(hz:z=[41]\/z=[93])(hl:fs.length+1+b<=100):∀{x acc},(∀y∈x::r,DG t w D0 Z f b y)->acc.length+r.length<=50->Rq t w q (Hf D0 Z (some (.tup (acc++x::r))) fs)->Rq t w (f x++(gI true (r.map f)++z::q)) (ZN D0 Z ((acc,z)::fs)):=by
 induction r with
 |nil=>exact λ{x acc} hf ha h=>hf x (.head _) hl (by rcases hz with rfl|rfl<;>kernel_rfl:J5 (z::q)=true) (.close hz (ac (ac (bX _) (ak _ b)) hl) (ac (ak _ _) (ac ha (by decide))) h)
 |cons y r ih=>
  intro x acc hf ha h;show Rq t w (f x++((kD++f y++gI true (r.map f))++z::q)) _;rw[ai,ai];exact hf x (.head _) hl rfl (.comma (ac (ac (bX _) (ak _ b)) hl:fs.length<=100) (ac (ac (ak _ 1) (ak _ _)) (ac (ac (aW (cq ..)) ha) (by decide))) (by rcases hz with rfl|rfl<;>decide) (ih (λy hy=>hf y (.tail _ hy)) (by rw[ae];exact (ac (aW (cq ..)) ha:acc.length+1+r.length<=50)) (by rw[ai];exact h)))
theorem Rq.rest(hz:z=[41]\/z=[93])(hl:fs.length+1+b<=100)(hf:∀y∈r,DG t w D0 Z f b y)(ha:acc.length+r.length<=50)(h:Rq t w q (Hf D0 Z (some (.tup (acc++r))) fs)):Rq t w (gI false (r.map f)++z::q) (PO D0 Z (acc,z) fs):=by
 cases r with
 |nil=>rw [au] at h;exact .empty hz h
 |cons x r=>
  show Rq t w (f x++gI true (r.map f)++z::q) _;rw[ai];exact (Rq.list hz hl hf (cg ha) h).mono λk S h=>⟨by
   unfold CA;rcases hz with rfl|rfl
   ·rw[h.1.1];rfl
   ·rw[h.1.2];rfl,h.2⟩
theorem Rq.T{Q:D->Prop}(H:∀y,Q y->DG t w D0 Z f b y)(hg:FJ Q x):DG t w D0 Z (yz f) (b+1) x:=λ{q fs} hl hn h=>by
 have l0:=ac (ak _ _) hl;have l1:fs.length+1+b<=100:=ac (aW (cq ..)) hl
 cases x with
 |none=>cases hg
 |list=>cases hg
 |bool v=>cases v<;>exact .atom (Ow (rfl)) ⟨rfl,rfl,rfl⟩ (rfl) l0 hn h
 |int i=>exact .atom (tpI (decide_eq_true ⟨hg.1,aX hg.2 (by decide)⟩)) ⟨rfl,rfl,rfl⟩ rfl l0 hn h
 |str s=>exact .atom (tpQ s) ⟨rfl,rfl,rfl⟩ rfl l0 hn h
 |tup l=>
  obtain ⟨h1,h2,h3⟩:=hg;show Rq t w (CN l (l.map f)++q) _;unfold CN;cases e:Hq l with
  |none=>
   show Rq t w ([tx "["]++gI false (l.map f)++[tx "]"]++q) _;rw[ai,ai];exact .tok (He (c:=91) rfl) nofun (λP F k S a z=>⟨⟨rfl,rfl⟩,by cases z with|mk e z=>exact z.up (.op (mX l0) ((Hr a _).trans e))⟩) (.rest (acc:=[]) (z:=[93]) (.inr rfl) l1 (λy hy=>H y (h3 y hy)) (ac (aW (bA _)) (ac h2 (aa rfl))) (h.mono λU U z=>z.2))
  |some s=>
   cases l with
   |nil=>cases e
   |cons y r=>cases y with
    |str s'=>
     cases e;show Rq t w ([s,tx "("]++gI false (r.map f)++[tx ")"]++q) _;rw[ai,ai];refine .tok (Ow h1) (λU=>rfl) (λP F k S a z=>⟨⟨rfl,rfl⟩,?_⟩) (.tok (Z:=PW D0 Z ([.str s],[41]) fs) (He (c:=40) rfl) nofun (λP F k S a z=>⟨rfl,a,z⟩) (.rest (.inl rfl) l1 (λy hy=>H y (h3 y (.tail _ hy))) (ac (aK (cg h2) 1) (aa rfl)) (h.mono λU U z=>z.2)))
     cases z with|mk q1 q2 q3=>cases q3 with|mk e z=>exact z.up (.op (mX l0) ((Hr a _).trans (by rw[q1];exact (Hr q2 _).trans e)))
    |_=>cases e
theorem Rq.data(b:Nat):∀{x},Gd b x->DG t w D0 Z (pu b) (b+1) x:=by
 induction b with
 |zero=>exact λ{x} hg=>Rq.T (b:=0) (Q:=λU=>False) (f:=λU=>[]) nofun hg
 |succ b ih=>exact λ{x} hg=>Rq.T (λU h=>ih h) hg
theorem Rq.dat(hx:Gd 4 x)(hn:J5 q=true)(h:Rq t w q λk S=>j_ k [40]=false/\Z k S):Rq t w (pu 4 x++q) (Hf x Z none []):=
 (Rq.data 4 hx (Z:=Z) (q:=q) (aa rfl) hn (h.mono λU U z=>⟨z.1,.ret,z.2⟩)).mono λU U z=>z.2
end
inductive FO(g:Tk->dA->Out V)(v:V)(Z:Tk->dA->Prop)(k:Tk)(S:dA):Prop
 |mk {k2:Tk} {S2:dA}:g k S= .ok v k2 S2->Z k2 S2->FO g v Z k S
theorem FO.el{g:Tk->dA->Out V}{v:V}{Z:Tk->dA->Prop}{k:Tk}{S:dA}{b9:Prop}(h9:FO g v Z k S)(k9:∀{k2:Tk} {S2:dA},g k S= .ok v k2 S2->Z k2 S2->b9):b9:=FO.rec k9 h9
inductive PSz(last:Option Int)(r:Rg)(Z:Tk->dA->Prop)(k:Tk)(S:dA):Prop
 |mk {k2:Tk} {S2:dA}:j_ k [125]=false->j_ k [123]=false->PS last k S (.ok (.d (yl r)) k2 S2)->Z k2 S2->PSz last r Z k S
inductive PMz(v:D)(Z:Tk->dA->Prop)(k:Tk)(S:dA):Prop
 |mk {k2:Tk} {S2:dA}:rZ k S (.ok (.d v) k2 S2)->Z k2 S2->PMz v Z k S
inductive X2(all:List Rg)(Z:Tk->dA->Prop)(fd:List Rg)(k:Tk)(S:dA):Prop
 |mk {v:V} {k2 k3:Tk} {S2 S3:dA}:PL fd k S (.ok all k2 S2)->ez k2 S2= .ok v k3 S3->Z k3 S3->X2 all Z fd k S
noncomputable def gR(last:Option Int)(r:Rg):Bool:=!G2 last r.1 r.2&&(r4 r.1&&r4 r.2)
noncomputable def gD:List Rg->Bool
 |[]=>true
 |[a]=>gR none a
 |[a,b]=>gR none a&&gR (some a.2) b
 |_=>false
section
variable{t w p:Tx}{q:List Tx}{Z:Tk->dA->Prop}{last:Option Int}{r:Rg}{rs:List Rg}{i:Int}{c:Nat}
theorem Rq.num(hi:r4 i=true)(hn:J5 q=true)(h:Rq t w q Z):Rq t w (gB i::q) (λk S=>k.d= .i i/\FO pNum (tI i) Z k S):=
 .tok (tpI hi) (λU=>hn) (λP F k S a z=>⟨rfl,Hr a _,z⟩) h
theorem Rq.range(hg:gR last r=true)(hn:J5 q=true)(h:Rq t w q Z):Rq t w (gB r.1::tf::gB r.2::q) (PSz last r Z):=by
 refine (aj.mp hg).elim λh1 h2=>(aj.mp h2).elim λh2 h3=>(Rq.num h2 rfl (.tok (Z:=FO (eP tf) (.d .none) (FO pNum (tI r.2) Z)) tpD nofun (λP F k S a z=>⟨oE a rfl,z.2⟩) (.num h3 hn h))).mono λk S z=>?_
 obtain ⟨k,P⟩:=k;obtain ⟨rfl,z⟩:=z;cases z with|mk e1 z=>cases z with|mk e2 z=>cases z with|mk e3 z=>
  exact ⟨rfl,rfl,.ok e1 e2 e3 (by cases e:G2 last r.1 r.2 with
   |false=>rfl
   |true=>rw [e] at h1;cases h1),z⟩
theorem Rq.rbr(hl:rs.length<=100)(h:Rq t w q Z):Rq t w (tx "}"::q) (X2 rs Z rs):=.tok (He (c:=125) rfl) nofun (λP F k S a z=>⟨.stop rfl (cf (mX hl)),a _,z⟩) h
theorem Rq.lbr(h:Rq t w q (X2 rs Z [])):Rq t w (tx "{"::q) (PMz (mW rs) Z):=.tok (He (c:=123) rfl) nofun (λP F k S a z=>by cases z with|mk h1 h2 z=>exact ⟨.many rfl (a _) h1 h2,z⟩) h
theorem Rq.dom(hr:rs∈ij)(hn:J5 q=true)(h:Rq t w q Z):Rq t w (JY rs++q) (PMz (mW rs) Z):=by
 cases rs with
 |nil=>exact .lbr (.rbr (aZ _) h)
 |cons a r=>cases r with
  |nil=>exact (Rq.range (of_map (f:=gD) (g:=λU=>true) hr) hn h).mono λk S z=>by cases z with|mk h1 h2 h3 z=>exact ⟨.xb h2 h3,z⟩
  |cons b r=>cases r with
   |cons U J=>cases (of_map (f:=gD) (g:=λU=>true) hr)
   |nil=>
    refine (aj.mp (of_map (f:=gD) (g:=λU=>true) hr)).elim λh1 h2=>.lbr ((Rq.range (Z:=X2 [a,b] Z [a]) h1 rfl (.tok (He (c:=44) rfl) nofun (λP F k S a z=>?_) (.bl rfl (.range h2 rfl (.rbr (rs:=[a,b]) (aa rfl) h))))).mono λk S z=>?_)
    ·cases z with|mk e1 e2 e3 z=>cases z with|mk f1 f2 z=>exact ⟨.more (fd:=[]) rfl (bk (cy 1) (aa rfl)) (oE a rfl) e3 f1,f2,z⟩
    ·cases z with|mk e1 e2 e3 z=>cases z with|mk f1 f2 z=>exact ⟨.xb e1 e3 f1,f2,z⟩
end
inductive It where
 |var (v:Vr)|con (d:D)|sol (k:Tx) (g:Option Int)|out (d:D)
noncomputable def It.P:It->List Tx
 | .var v=>yA v
 | .con d=>vD d
 | .sol k g=>xy k g
 | .out d=>Eo d
noncomputable def It.Ok:It->Prop
 | .var v=>v.1∈lJ/\v.2∈ij
 | .con d=>Gd 4 d
 | .sol k g=>k=tx "satisfy"/\g=none\/(k=tx "minimize"\/k=tx "maximize")/\∃i,g=some i/\r4 i=true
 | .out d=>Gd 4 d
noncomputable def It.hd:It->Tx
 | .var _=>qP
 | .con _=>ux
 | .sol _ _=>yv
 | .out _=>xg
noncomputable def It.B:It->List Tx
 | .var v=>JY v.2++[tx ":",tx " ",Em v.1]
 | .con d=>pu 4 d
 | .sol k g=>k::g.elim [] λi=>[tx " ",gB i]
 | .out d=>pu 4 d
noncomputable def It.WT(p:Int)(M:Md):It->Md
 | .var v=>{M with vs:=M.vs++[v.D]}
 | .con d=>{M with ps:=M.ps++[.int p],ts:=M.ts++[d]}
 | .sol k g=>{M with gs:=p,gl:=.tup [.str k,CO g]}
 | .out d=>{M with ss:=p,sh:=d}
noncomputable def It.WU(M:Md):It->Prop
 | .sol _ _=>M.gs= -1
 | .out _=>M.ss= -1
 | .var _=>M.vs.length<=100
 | .con _=>M.ts.length<=100/\M.ps.length<=100
inductive ML(Q:Out Md->Prop)(M:Md)(k:Tk)(S:dA):Prop
 |mk {o:Out Md}:lI M k S o->Q o->ML Q M k S
theorem ML.el{Q:Out Md->Prop}{M:Md}{k:Tk}{S:dA}{b9:Prop}(h9:ML Q M k S)(k9:∀{o:Out Md},lI M k S o->Q o->b9):b9:=ML.rec k9 h9
noncomputable def PZ(Q:Out Md->Prop)(W:Md->Prop)(k:Tk)(S:dA):Prop:=k.d.isQ=false/\∀M,W M->ML Q M k S
inductive X4(Q:Out Md->Prop)(M:Md)(h k:Tk)(S:dA):Prop
 |mk {M':Md} {k2 k3:Tk} {S2 S3:dA} {v:V}:pd M h k S (.ok M' k2 S2)->eP [59] k2 S2= .ok v k3 S3->ML Q M' k3 S3->X4 Q M h k S
section
variable{t w:Tx}{q:List Tx}{Q:Out Md->Prop}{W W':Md->Prop}{r:List Tx}{Z:Tk->dA->Prop}{i:It}{k h:Tk}{S F:dA}{M:Md}{d:D}{v:Vr}{P:Int}
noncomputable abbrev ZS(Z:Tk->dA->Prop)(k:Tk)(S:dA):Prop:=j_ k [40]=false/\FO (eP [59]) (.d .none) Z k S
theorem Rq.semi(h:Rq t w q Z):Rq t w (k_++q) (ZS Z):=.tok (He (c:=59) rfl) nofun (λP F k S a z=>⟨rfl,oE a rfl,z⟩) (.bl rfl h)
theorem ML.of(a:At F k S)(z:X4 Q M ⟨.w i.hd,P⟩ k S):ML Q M ⟨.w i.hd,P⟩ F:=by
 cases z with|mk b e z=>cases z with|mk r q=>exact ⟨.turn rfl (.ok (a _) b e) r,q⟩
noncomputable def BZ(Q:Out Md->Prop)(W:Md->Prop)(i:It)(k:Tk)(S:dA):Prop:=∀M P,i.WU M->W (i.WT k.p M)->X4 Q M ⟨.w i.hd,P⟩ k S
theorem pdz(z:Hf d (FO (eP [59]) (.d .none) (PZ Q W)) none [] k S){M M':Md}{h:Tk}(hW:W M')(b:∀{k2 S2},PD none [] k S (.ok (.d d) k2 S2)->pd M h k S (.ok M' k2 S2)):X4 Q M h k S:=by
 cases z with|mk p z=>cases z with|mk e z=>exact ⟨b p,e,z.2 _ hW⟩
theorem lt100{n:Nat}(h:n<=100):n<lim:=bi h (aa rfl)
theorem Rq.body(hi:i.Ok)(hn:J5 r=true)(hs:Rq t w r (ZS (PZ Q W))):Rq t w (i.B++r) (BZ Q W i):=by
 cases i with
 |con d=>exact (Rq.dat hi hn hs).mono λk S z M P m hW=>pdz z hW λp=>.con rfl rfl (.ok (lt100 m.2) (lt100 m.1) p)
 |out d=>exact (Rq.dat hi hn hs).mono λk S z M P m hW=>pdz z hW λp=>.out rfl rfl rfl rfl (.ok (by rw[show M.ss= -1 from m];decide) p)
 |var v=>
  show Rq t w (JY v.2++[tx ":",tx " ",Em v.1]++r) _;rw[ai];have nm:∃d,yC (Em v.1) d/\isName d=true/\d.D= .str v.1:=by
   unfold Em;cases e:mU v.1 with
   |true=>exact ⟨_,Ow e,rfl,rfl⟩
   |false=>exact ⟨_,tpQ _,rfl,rfl⟩
  refine nm.elim λd z0=>z0.elim λn1 z1=>z1.elim λn2 n3=>(Rq.dom hi.2 rfl (.tok (Z:=FO (eP [58]) (.d .none) λk S=>k.d=d/\FO ez (.d k.D) (FO (eP [59]) (.d .none) (PZ Q W)) k S) (He (c:=58) rfl) nofun (λP F k S a z=>⟨oE a rfl,z⟩) (.bl rfl (.tok n1 (λU=>hn) (λP F k S a z=>⟨rfl,a _,z.2⟩) hs)))).mono λk S z M P m hW=>?_
  cases z with|mk p1 z=>cases z with|mk p2 z=>
   refine z.elim λe z=>?_
   cases z with|mk p3 z=>cases z with|mk p4 z=>
    exact ⟨.var rfl (.ok p1 p2 (by rw[e];exact n2) p3 (lt100 m)),p4,z.2 _ (by rw[e,n3];exact hW)⟩
 |sol g o=>
  rcases hi with ⟨rfl,rfl⟩|⟨hg,j,rfl,hj⟩
  ·exact .tok (Ow (rfl)) (λU=>hn) (λP F k S a z M P' m hW=>z.2.el λe z=>⟨.sol rfl rfl rfl (.N7 (by rw[show M.gs= -1 from m];decide) (a _) rfl rfl),e,z.2 _ hW⟩) hs
  ·have hw:mU g=true/\kW Ku (.str g)=true/\t7 (.str g) (.str (tx "satisfy"))=false:=by rcases hg with rfl|rfl<;>exact ⟨rfl,rfl,rfl⟩
   exact .tok (Ow hw.1) (λU=>rfl) (λP F k S a z M P' m hW=>by
    cases z with|mk e1 z=>cases z with|mk e z=>exact ⟨.sol rfl rfl rfl (.num (by rw[show M.gs= -1 from m];decide) (a _) hw.2.1 hw.2.2 e1),e,z.2 _ hW⟩) (.bl rfl (.tok (Z:=FO pNum (tI j) (FO (eP [59]) (.d .none) (PZ Q W))) (tpI hj) (λU=>hn) (λP F k S a z=>⟨Hr a _,z.2⟩) hs))
theorem It.Hg:i.P=i.hd::tx " "::(i.B++k_):=by
 cases i with
 |sol k g=>cases g<;>rfl
 |var v=>exact (congrArg (·++k_) (ai [tx "var",tx " "] (JY v.2) [tx ":",tx " ",Em v.1]):)
 |_=>rfl
theorem Rq.head(hi:i.Ok)(hn:J5 r=true)(hs:Rq t w r (ZS (PZ Q W))):Rq t w (i.hd::tx " "::(i.B++r)) (PZ Q λM=>i.WU M/\∀P,W (i.WT P M)):=
 .tok (Ow (by cases i<;>kernel_rfl)) (λU=>rfl) (λP F k S a z=>⟨rfl,λM hM=>.of a (z M P hM.1 (hM.2 k.p))⟩) (.bl rfl (Rq.body hi hn hs))
theorem Rq.item(hi:i.Ok)(h:Rq t w q (PZ Q W)):Rq t w (i.P++q) (PZ Q λM=>i.WU M/\∀P,W (i.WT P M)):=by
 rw[It.Hg];show Rq t w (i.hd::tx " "::(i.B++k_++q)) _;rw[ai];exact .head hi rfl (.semi h)
noncomputable def C'(W:Md->Prop)(its:List It):Md->Prop:=its.foldr (λi W M=>i.WU M/\∀P,W (i.WT P M)) W
theorem Rq.items{its:List It}(hi:∀i∈its,i.Ok)(h:Rq t w q (PZ Q W)):Rq t w ((its.map It.P).flatten++q) (PZ Q (C' W its)):=by
 induction its with
 |nil=>exact h
 |cons i its ih=>
  simp only [cD,dJ,ai];exact .item (hi i (.head _)) (ih λj hj=>hi j (.tail _ hj))
theorem Rt.fin(h:∀{M k S},W M->Q (.ok M k S)):Rt t [] false (PZ Q W):=⟨.fin iI (.stop nofun),λU=>rfl,nofun,rfl,λM hM=>⟨.stop rfl,h hM⟩⟩
end
noncomputable def Rb(d:D)(n:Nat):Prop:=eL (py d)=true/\(py d).shown.length<=n
noncomputable def Rs(l:List D)(n:Nat):Prop:=sm (ET l)=true/\piled (iJ (ET l))<=n
section
variable{n m k:Nat}{l:List D}{d x:D}
theorem Rb.mono(h:Rb d n)(hk:n<=k):Rb d k:=⟨h.1,ac h.2 hk⟩
theorem Rs.nil:Rs [] 0:=⟨rfl,ax _⟩
theorem Rs.cons(h:Rb x n)(h2:Rs l m):Rs (x::l) (n+2+m):=⟨by show (_&&_)=true;rw[h.1,h2.1];rfl,by
 show piled (_::_)<=_;rw[piled_cons];exact be (aB h.2 2) h2.2⟩
theorem Rs.all(h:∀x∈l,Rb x n):Rs l (l.length*(n+2)):=by
 induction l with
 |nil=>exact (Nat.zero_mul _).symm▸ .nil
 |cons x l ih=>
  simp only [bP,lj,bI];exact .cons (h x (.head _)) (ih λy hy=>h y (.tail _ hy))
theorem Er(ts:List Str):(lN ", " ts).length<=piled ts:=by
 cases ts with
 |nil=>exact ax 0
 |cons t r=>exact Nat.le_of_add_right_le (aW (join_length_add (t::r) (jV _ _)))
theorem Rs.tup(h:Rs l n):Rb (.tup l) (n+3):=⟨h.1,by
 show (tupleText _).length<=_;unfold tupleText;simp only [j7,j7];exact ac (be (aK (ac (Er _) h.2) 1) (by cases (iJ (ET l)).length==1<;>decide+kernel:(((if (iJ (ET l)).length==1 then ",)" else ")":String):Str)).length<=2)) (aW (by rw[bI 1,bo]))⟩
theorem Rs.list(h:Rs l n):Rb (.list l) (n+3):=⟨h.1,by
 have h2:=h.2;show (listText (iJ (ET l))).length<=_
 unfold listText;rw[j7];cases e:iJ (ET l) with
 |nil=>exact ac (by decide+kernel) (cK 3 _)
 |cons t r=>
  rw[e] at h2;have h:=textFrom_length_pos r 1 (("[":Str)++(if 0>0 then ", " else "":String)++t) (by decide)
  rw[show textFrom 0 ("[":Str) (t::r)=textFrom 1 (("[":Str)++(if 0>0 then ", " else "":String)++t) r from rfl,h,show (("[":Str)++(if 0>0 then ", " else "":String)++t).length=1+0+t.length by rw[j7,j7];rfl]
  rw[piled_cons] at h2;clear h e;show 1+0+t.length+piled r+1<=n+3;rw[A7,bI 1];exact ac (aw (aB (bX _) _)) (ac (aw h2) (ak _ 2))⟩
theorem MM{L:List Tx}{s:Tx}(hs:s∈L)(h:(L.map λs=>(eL (py (.str s)),b7 (py (.str s)).shown.length 40))=L.map (λU=>(true,true)):=by kernel_rfl):Rb (.str s) 40:=⟨(cS (of_map (f:=λs=>(eL (py (.str s)),b7 (py (.str s)).shown.length 40)) hs h)).1,aa (cS (of_map (f:=λs=>(eL (py (.str s)),b7 (py (.str s)).shown.length 40)) hs h)).2⟩
theorem WV{i:Int}(h:r4 i=true):Rb (.int i) 3:=⟨(aj.mp (nE (p:=λi=>eL (py (.int i))&&b7 (py (.int i)).shown.length 3) (by decide) h)).1,aa (aj.mp (nE (p:=λi=>eL (py (.int i))&&b7 (py (.int i)).shown.length 3) (by decide) h)).2⟩
theorem Rs.WW{f:D->List Tx}(h:∀x∈l,Rb x (50*(f x).length)):Rs l (50*(gI true (l.map f)).length):=by
 induction l with
 |nil=>exact .nil
 |cons x l ih=>
  refine ⟨(Rs.cons (h x (.head _)) (ih λy hy=>h y (.tail _ hy))).1,ac (Rs.cons (h x (.head _)) (ih λy hy=>h y (.tail _ hy))).2 ?_⟩
  show _<=50*(kD++f x++gI true (l.map f)).length;simp only [ae,ae,qh,qh,bI _ 2];exact aB (aB (aa rfl) _) _
theorem Rs.WX{f:D->List Tx}(h:∀x∈l,Rb x (50*(f x).length)):Rs l (50*(gI false (l.map f)).length+2):=by
 cases l with
 |nil=>exact ⟨rfl,aZ _⟩
 |cons x l=>
  refine ⟨(Rs.cons (h x (.head _)) (Rs.WW λy hy=>h y (.tail _ hy))).1,ac (Rs.cons (h x (.head _)) (Rs.WW λy hy=>h y (.tail _ hy))).2 (aW ?_)⟩
  show _=50*(f x++gI true (l.map f)).length+2;simp only [ae,qh,bD]
theorem WY{f:D->List Tx}{Q:D->Prop}(hS:∀s,Q (.str s)->s∈mV)(H:∀y,Q y->Rb y (50*(f y).length))(h:FJ Q x):Rb x (50*(yz f x).length):=by
 cases x with
 |none=>cases h
 |list=>cases h
 |bool b=>cases b<;>exact ⟨rfl,aa (by kernel_rfl)⟩
 |int i=>exact (WV (decide_eq_true ⟨h.1,aX h.2 (by decide)⟩)).mono (aa rfl)
 |str s=>exact (MM h).mono (aa rfl)
 |tup l=>
  obtain ⟨-, -,h3⟩:=h;show Rb _ (50*(CN l (l.map f)).length);unfold CN;have fin {b:Nat} {p z q:List Tx} (hp:b+5<=50*(p.length+z.length)) (r:Rb (.tup l) (b+(50*q.length+2)+3)):Rb (.tup l) (50*(p++q++z).length):=r.mono (by
   rw[ae,ae,bD p.length,qh];show b+50*q.length+5<=_;rw[bD];exact aB hp _)
  cases e:Hq l with
  |none=>exact fin (b:=0) (p:=[tx "["]) (z:=[tx "]"]) (by decide) (by rw[bA];exact (Rs.WX λy hy=>H y (h3 y hy)).tup)
  |some s=>
   cases l with
   |nil=>cases e
   |cons y r=>cases y with
    |str s'=>exact fin (b:=42) (p:=[s,tx "("]) (z:=[tx ")"]) (aa rfl) ((Rs.cons (MM (hS s' (h3 _ (.head _)))) (Rs.WX λy hy=>H y (h3 y (.tail _ hy)))).tup)
    |_=>cases e
theorem WZ(k:Nat):∀{x},Gd k x->Rb x (50*(pu k x).length):=by
 induction k with
 |zero=>exact λ{x} h=>WY nofun nofun h
 |succ k ih=>exact λ{x} h=>WY (λU h=>by cases k<;>exact h) (λx h=>ih h) h
theorem J6(h:Wr d):Rb d 30000:=(WZ 4 h.1).mono (ci 50 h.2.1)
theorem Rk{v:Vr}(h1:v.1∈lJ)(h2:v.2∈ij):Rb v.D 107:=(Rs.cons (MM h1) (Rs.cons ⟨(cS (of_map (f:=λrs=>(eL (py (mW rs)),b7 (py (mW rs)).shown.length 60)) (g:=λU=>(true,true)) h2)).1,aa (cS (of_map (f:=λrs=>(eL (py (mW rs)),b7 (py (mW rs)).shown.length 60)) (g:=λU=>(true,true)) h2)).2⟩ .nil)).tup
end
noncomputable abbrev Sol:=Option (Tx×Option Int)
noncomputable def Hs(so:Sol)(ou:Option D):List It:=(so.elim [] λp=>[.sol p.1 p.2])++(ou.elim [] λd=>[.out d])
noncomputable def Bi(so:Sol):D:=so.elim (.tup [.str (tx "satisfy"),.none]) λp=>.tup [.str p.1,CO p.2]
noncomputable def MN(ou:Option D):D:=ou.elim (.tup []) id
inductive Fin(vs ts:List D)(gl sh:D)(A:List Int->Prop):Md->Prop
 |mk {ps:List Int} {gs ss:Int}:ps.length=ts.length->A ps->Fin vs ts gl sh A ⟨vs,ts,ps.map .int,gl,sh,gs,ss⟩
inductive Kw(W:Md->Prop):Out Md->Prop
 |mk {M:Md} {k:Tk} {S:dA}:W M->Kw W (.ok M k S)
section
variable{S F:dA}{V V1 V2:List Vr}{M:Md}{gl sh d:D}
theorem qJ(h:C' (C' W b) a M):C' W (a++b) M:=by unfold C';rw[tM];exact h
theorem xG:∀{M},M.vs.length+V.length<=100->W {M with vs:=M.vs++V.map Vr.D}->C' W (V.map .var) M:=by
 induction V with
 |nil=>
  intro M _ h;rw[show M.vs++kg Vr.D []=M.vs from au _] at h
  exact h
 |cons v V ih=>exact λ{M} hl h=>⟨ac (ak _ _) hl,λP=>ih (by show (M.vs++[v.D]).length+_<=_;rw[ae,bo,bI [v.D].length];exact hl) (by
   show W {M with vs:=(M.vs++[v.D])++V.map Vr.D}
   rw[ai];exact h)⟩
theorem xH:∀{M},M.ts.length+T.length<=100->M.ps.length+T.length<=100->(∀qs:List Int,qs.length=T.length->W {M with ts:=M.ts++T,ps:=M.ps++qs.map .int})->C' W (T.map .con) M:=by
 induction T with
 |nil=>
  intro M _ _ h;have h:W {M with ts:=M.ts++[],ps:=M.ps++[]}:=h [] rfl
  simp only [au,au] at h;exact h
 |cons d T ih=>exact λ{M} h1 h2 h=>⟨⟨ac (ak _ _) h1,ac (ak _ _) h2⟩,λP=>ih (by show (M.ts++[d]).length+_<=_;rw[ae,bo,bI [d].length];exact h1) (by show (M.ps++[D.int P]).length+_<=_;rw[ae,bo,bI [D.int P].length];exact h2) λqs hq=>by
   show W {M with ts:=(M.ts++[d])++T,ps:=(M.ps++[D.int P])++qs.map .int}
   simp only [ai,ai];exact h (P::qs) (congrArg (·+1) hq)⟩
theorem J7(h:∀gs ss,W ⟨vs,ts,A,Bi so,MN ou,gs,ss⟩):C' W (Hs so ou) ⟨vs,ts,A,M0.gl,M0.sh, -1, -1⟩:=by
 cases so with
 |none=>cases ou with
  |none=>exact h _ _
  |some d=>exact ⟨rfl,λU=>h _ _⟩
 |some p=>cases ou with
  |none=>exact ⟨rfl,λU=>h _ _⟩
  |some d=>exact ⟨rfl,λU=>⟨rfl,λU=>h _ _⟩⟩
noncomputable abbrev vF(V1:List Vr)(T:List D)(so:Sol)(ou:Option D)(V2:List Vr):List It:=V1.map .var++(T.map .con++(Hs so ou++V2.map .var))
theorem AS(hv:V1.length+V2.length<=100)(ht:T.length<=100):C' (Fin ((V1++V2).map Vr.D) T (Bi so) (MN ou) λU=>True) (vF V1 T so ou V2) M0:=
 qJ (xG (ac (aW (bA _)) (ac (ak _ _) hv)) (qJ (xH (ac (aW (bA _)) ht) (ac (aW (bA _)) ht) λqs hq=>qJ (J7 λgs ss=>xG (by show (V1.map Vr.D).length+_<=_;rw[af];exact hv) (aH▸⟨hq,trivial⟩)))))
theorem AU(a:At F k S)(hq:k.d.isQ=false):FC F/\tu F= .ok M0 k S:=by
 cases F with
 |bad=>cases (a ⟨.e,0⟩)
 |fin=>cases (a ⟨.e,0⟩);exact ⟨trivial,rfl⟩
 |cons=>cases (a ⟨.e,0⟩);exact ⟨hq,rfl⟩
theorem J8(h:∀d∈T,Good N vs d):∀{ps:List Int},ps.length=T.length->Mg N vs T ps none:=by
 induction T with
 |nil=>intro ps hl;cases di.mp hl;exact .nil
 |cons d T ih=>
  intro ps hl;cases ps with
  |nil=>cases hl
  |cons p ps=>exact .ok (h d (.head _)) (ih (λx hx=>h x (.tail _ hx)) (oS hl))
theorem MO(h:∀d∈A,Good N vs d)(hf:pe N vs.length d):∀{ps:List Int},ps.length=(A++d::B).length->ps[A.length]? =some p->Mg N vs (A++d::B) ps (some p):=by
 induction A with
 |nil=>
  intro ps hl hp;cases ps with
  |nil=>cases hl
  |cons q ps=>cases hp;exact .bad hf
 |cons a A ih=>
  intro ps hl hp;cases ps with
  |nil=>cases hl
  |cons q ps=>exact .ok (h a (.head _)) (ih (λx hx=>h x (.tail _ hx)) (oS hl) hp)
noncomputable def Hh(t:Tx)(vs ts:List D)(gl sh:D):Prop:=∀n,∃a b B,cl (n+13) 488 [tS t] []= .ok (.obj 2) ([a,b]++CR (.obj 3) (.d (.list ts)) gl sh::cx vs:: .dead::B)
theorem lv(V:List Vr):(V.map Vr.D).length=V.length:=af _
theorem qK(ht:t.length<=lim)(h:Rt t t e (PZ (Kw (Fin (V.map Vr.D) T gl sh λU=>True)) W))(hW:W M0)(hV:V.length<=10)(hT:∀d∈T,∀N,Good (N+6) (V.map Vr.D) d)(hg:AJ V.length gl)(hs:xx V.length sh):Hh t (V.map Vr.D) T gl sh:=λn=>by
 refine cps λP9 k9=>h.el λm a U z=>(AU a z.1).elim λhf hi=>?_
 cases z.2 _ hW with|mk d q=>cases q with|mk q=>cases q with|mk hl U=>
 exact (V7 (n:=n) ht m hf hi d rfl (by show (V.map Vr.D).length<=lim;rw[lv];exact ac hV (aa rfl)) (J8 (λd hd=>hT d hd (n+5)) hl) λU=>by rw[lv];exact ⟨hg,Mu hs⟩).elim λk z0=>z0.elim λu z1=>z1.elim λg x=>k9 ⟨_,_,_,x⟩
theorem J9(ht:t.length<=lim)(h:Rt t t e (PZ (Kw (Fin (V.map Vr.D) (A++d::B) gl sh λps=>ps[A.length]? =some p)) W))(hW:W M0)(hV:V.length<=10)(hT:∀d∈A,∀N,Good (N+6) (V.map Vr.D) d)(hf:∀N,pe (N+6) V.length d):cl (n+13) 488 [tS t] []= .exc p:=by
 refine cps λP9 k9=>?_
 refine h.el λm a U z=>(AU a z.1).elim λhff hi=>?_
 cases z.2 _ hW with|mk d' q=>cases q with|mk q=>cases q with|mk hl hp=>
 refine k9 ?_;exact V7 ht m hff hi d' rfl (by show (V.map Vr.D).length<=lim;rw[lv];exact ac hV (aa rfl)) (MO (λd hd=>hT d hd (n+5)) (by rw[lv];exact hf (n+5)) hl hp) nofun
noncomputable abbrev J'(vs ts:List D)(gl sh:D):List D:=[.list vs,.list ts,gl,sh]
theorem W0(n:Nat){mo:D}{X:Tx}(h:Hh t vs ts gl sh)(hm:bList [.d mo]=ret (.list (J' vs ts gl sh)))(hR:bRepr [.d (.list (J' vs ts gl sh))]=ret (.str X)):∃τ,cl (n+14) 595 [tS t,.d mo] []= .ok (.d (.bool true)) τ:=by
 refine (h n).elim λa z0=>z0.elim λb z1=>z1.elim λB h=>?_
 have f0:=fz0 [a,b] B (.d (.list ts)) .dead gl sh vs [];simp only [au,au] at f0
 exact ⟨[a,b]++CR (.d (.list vs)) (.d (.list ts)) gl sh:: .dead:: .dead::B,wc Z9 [.V 0 h,.V 0 f0,.M 4 hR,.M 0 hm,.M 0 hR,.B 1 ((beq_self_eq_true X:_))]⟩
end
noncomputable def Gz(k:Nat)(d:D)(n:Nat):Prop:=Gd k d/\(pu k d).flatten.length<=n
section
variable{k n m c:Nat}{d x:D}{l r:List D}{i many:Int}{s name form:Tx}{il:List Int}{ls:List Lt}{as bs:List D}{f:D->List Tx}
theorem Gz.mono(h:Gz k d n)(hn:b7 n m=true:=by kernel_rfl):Gz k d m:=⟨h.1,ac h.2 (aa hn)⟩
theorem vG(k:Nat)(h0: -9<=i)(h:i<=9):Gz k (.int i) 2:=by
 have q:(gB i++[]).length<=2:=by rw[au];exact (gH (decide_eq_true ⟨h0,aX h (by decide)⟩)).2
 cases k<;>exact ⟨⟨h0,h⟩,q⟩
theorem Rl(k:Nat)(h:s∈mV):Gz k (.str s) 22:=by
 cases k<;>exact ⟨h,(aa (of_map (f:=λs=>b7 (lq s++[]).length 22) (g:=λU=>true) h))⟩
theorem abo(k:Nat):Gz k (.bool true) 4:=by cases k<;>exact ⟨trivial,aa (rfl)⟩
theorem J_(h:∀x∈l,(f x).flatten.length<=n):∀{late},(gI late (l.map f)).flatten.length<=l.length*(n+2):=by
 induction l with
 |nil=>exact λ{_}=>aZ _
 |cons x l ih=>
  intro late;show (cond late kD []++f x++gI true (l.map f)).flatten.length<=(l.length+1)*(n+2);rw[zq,ae,ae,lj,bI,bI (f x).flatten.length,bo];exact be (ih λy hy=>h y (.tail _ hy)) (be (h x (.head _)) (by cases late<;>decide))
theorem p7(h:∀x∈l,Gz k x n)(hl:l.length<=m)(hm:b7 m 20=true)(hw:Hq l=none):Gz (k+1) (.tup l) (2+m*(n+2)):=⟨⟨by rw[hw];rfl,ac hl (aa hm),λx hx=>(h x hx).1⟩,by
 show (CN l (l.map (pu k))).flatten.length<=_;unfold CN;rw[hw];show ([tx "["]++gI false (l.map (pu k))++[tx "]"]).flatten.length<=_;rw[zq,<-ai,ae,ae,bD];exact aK (ac (J_ λx hx=>(h x hx).2) (cV _ hl)) 2⟩
theorem lg(hs:s∈mV)(hc:s.length<=c)(hw:mU s=true)(h:∀x∈as,Gz k x n)(hl:as.length<=m)(hm:b7 m 19=true):Gz (k+1) (dO s as) (c+2+m*(n+2)):=⟨⟨hw,aw (ac hl (aa hm)),λx hx=>by
 cases hx with
 |head=>exact (Rl k hs).1
 |tail U hx=>exact (h x hx).1⟩,by
 show ([s,tx "("]++gI false (as.map (pu k))++[tx ")"]).flatten.length<=_;rw[zq,<-ai,ae,ae,bD];refine be ?_ (ac (J_ λx hx=>(h x hx).2) (cV _ hl))
 show (s++tx "(").length+1<=c+2;rw[ae];exact aB (aB hc 1) 1⟩
theorem all_nil(P:D->Prop):∀x∈([]:List D),P x:=λU h=>absurd h bu
theorem all_cons{P:D->Prop}(h:P x)(h2:∀y∈l,P y):∀y∈x::l,P y:=λy hy=>by
 cases hy with
 |head=>exact h
 |tail U hy=>exact h2 y hy
theorem lK(k:Nat)(hl:il.length<=2){lo hi:Int}(h:In lo hi il)(h0: -9<=lo)(h1:hi<=10):Gz (k+1) (j5 il) 10:=p7 (n:=2) (m:=2) (λx hx=>by
 obtain ⟨i,hi,rfl⟩:=br.mp hx;exact vG k (aX h0 (h i hi).1) (km (bL (h i hi).2 h1))) (by rw[af];exact hl) rfl (by cases il<;>rfl)
theorem Ka{c:Lt}(hn:n<=2)(hm:many<=10)(h:p6 many n as c):∀x∈as,Gz 3 x 47:=by
 cases c with
 |x=>obtain ⟨i,rfl,h1,h2⟩:=h;exact all_cons ((vG 3 (aX (by decide) h1) (km (bL h2 hm))).mono) (all_nil _)
 |b=>obtain ⟨i,rfl,h1,h2⟩:=h;exact all_cons ((vG 3 (aX (by decide) h1) (aX (c9 h2) (by decide))).mono) (all_nil _)
 |n=>obtain ⟨i,rfl,h1,h2⟩:=h;exact all_cons ((vG 3 (aX (by decide) h1) (aX (c9 h2) (by decide))).mono) (all_nil _)
 |X=>obtain ⟨l,rfl,h1,h2⟩:=h;exact all_cons ((lK 2 (h1▸hn) h2 (by decide) hm).mono) (all_nil _)
 |B=>obtain ⟨l,rfl,h1,h2⟩:=h;exact all_cons ((lK 2 h1 h2 (by decide) (by decide)).mono) (all_nil _)
 |N=>obtain ⟨l,rfl,h1,h2⟩:=h;exact all_cons ((lK 2 (h1▸hn) h2 (by decide) (by decide)).mono) (all_nil _)
 |P=>obtain ⟨l,rfl,h1,h2⟩:=h;exact all_cons ((lK 2 (h1▸hn) h2 (by decide) (by decide)).mono) (all_nil _)
 |R=>
  obtain ⟨ls,rfl,h1,h2⟩:=h;exact all_cons ((p7 (λx hx=>by
   obtain ⟨l,hl,rfl⟩:=br.mp hx;exact lK 1 ((h2 l hl).1▸hn) (h2 l hl).2 (by decide) (by decide)) (by rw[af];exact h1) rfl (by cases ls<;>rfl)).mono) (all_nil _)
 |s=>obtain ⟨s,rfl,h1⟩:=h;exact all_cons ((Rl 3 (by rcases h1 with rfl|rfl<;>decide+kernel)).mono) (all_nil _)
 |m=>
  refine cps λP9 k9=>?_
  obtain ⟨r1,r2,f,i,rfl,e1,e2,h1,h2,h3,h4,h5,h6⟩:=h;refine k9 ?_;exact all_cons ((vG 3 (i:=2) (by decide) (by decide)).mono) (all_cons ((vG 3 (i:=2) (by decide) (by decide)).mono) (all_cons ((p7 (k:=2) (all_cons (lK 1 (aW e1) h1 (by decide) (by decide)) (all_cons (lK 1 (aW e2) h2 (by decide) (by decide)) (all_nil _))) (ax 2) rfl rfl).mono) (all_cons ((vG 3 (aX (by decide) h3) (aX (c9 h4) (by decide))).mono) (all_cons ((lK 2 (bp h5) h6 (by decide) (by decide)).mono) (all_nil _)))))
 |t=>
  obtain ⟨s,l,r,i,rfl,hs,h1,h2,h3,h4,h5,h6⟩:=h;exact all_cons ((lg (k:=2) (by rcases hs with rfl|rfl|rfl<;>exact ⟨by decide+kernel,aa (rfl),rfl⟩:s∈mV/\s.length<=9/\mU s=true).1 (by rcases hs with rfl|rfl|rfl<;>exact ⟨by decide+kernel,aa (rfl),rfl⟩:s∈mV/\s.length<=9/\mU s=true).2.1 (by rcases hs with rfl|rfl|rfl<;>exact ⟨by decide+kernel,aa (rfl),rfl⟩:s∈mV/\s.length<=9/\mU s=true).2.2 (all_cons (lK 1 (h1▸hn) h3 (by decide) (by decide)) (all_cons (lK 1 (h2▸hn) h4 (by decide) hm) (all_cons ((vG 2 (aX (by decide) h5) (aX (c9 h6) (by decide))).mono) (all_nil _)))) (ax 3) rfl).mono) (all_nil _)
theorem tz(hn:n<=2)(hm:many<=10):∀{as},ef many n ls as->∀x∈as,Gz 3 x 47:=by
 induction ls with
 |nil=>exact λ{as} h=>by cases h;exact all_nil _
 |cons c ls ih=>exact λ{as} ⟨a,b,e,h1,h2⟩ x hx=>(bf.mp (e▸hx)).elim (Ka hn hm h1 x) (ih h2 x)
theorem Gz.wr(h:Gz 4 d 500):Wr d:=⟨h.1,by
 have q:=vE.all (P:=λp=>!p.isEmpty) (AP 4 h.1)
 refine ac ?_ (ac h.2 (aa rfl))
 generalize pu 4 d=l at q
 induction l with
 |nil=>exact aZ _
 |cons p l ih=>
  refine (aj.mp (q)).elim λq1 q2=>?_
  rw[dJ,ae,bI];cases p with
  |nil=>cases q1
  |cons c p=>exact be (ih q2) (aw (aZ _)),h.2⟩
theorem FP(hs:s∈mV)(hc:s.length<=13)(hw:mU s=true)(h:∀x∈as,Gz 3 x 47)(hl:as.length<=7):Wr (dO s as):=Gz.wr (lg hs hc hw h hl rfl).mono
theorem FQ{P:Prop}(hp:(name,form)∈fY)(h:ef many n (form.map eY) as)(f:(∀as,(∀x∈as,Gz 3 x 47)->as.length<=7->Wr (dO name as))->as.length<=6->P):P:=by
 have q:=of_map (f:=λp:Tx×Tx=>(mV.contains p.1,mU p.1,b7 p.1.length 13,b7 ((p.2.map eY).flatMap expand).length 6)) (g:=λU=>(true,true,true,true)) hp
 injection q with q1 q
 injection q with q2 q
 injection q with q3 q4
 exact f (λas=>FP (iz.mp q1) (aa q3) q2) (jK h▸aa q4)
theorem W1(hm:many<=10)(h:LT many d):Wr d:=by
 obtain ⟨⟨name,form⟩,hp,n,⟨-,hn⟩,as,h,rfl⟩:=h;exact FQ hp h λw h3=>w as (tz hn hm h) (bp h3)
theorem CS(hn:n<=2)(h0:0<=many)(hm:many<=9)(hb:uZ many ls as bs)(h:ef many n ls as):(∀x∈bs,Gz 3 x 47)/\bs.length=as.length:=by
 have hi:=(vG 3 (aX (by decide) h0) hm).mono (m:=47)
 have X6:many<=10:=aX hm (by decide)
 induction hb with
 |@soft c ls x as hs=>
  obtain ⟨a,b,e,h1,h2⟩:=h;cases c with
  |x=>obtain ⟨i,rfl,U⟩:=h1;cases e;exact ⟨all_cons hi (tz hn X6 h2),rfl⟩
  |b=>obtain ⟨i,rfl,U⟩:=h1;cases e;exact ⟨all_cons hi (tz hn X6 h2),rfl⟩
  |X=>
   obtain ⟨l,rfl,h3,h4⟩:=h1;cases e;refine ⟨all_cons ?_ (tz hn X6 h2),rfl⟩;show Gz 3 (.tup (.int many::(l.map D.int).tail)) 47;exact m8.symm▸(lK 2 (lo:=0) (by rw[bP,jW];exact aw (p9 (h3▸hn) 1)) (oB h0 (iU.mpr (C6 _)) λi hi=>⟨(h4 i (fC hi)).1,A0 (h4 i (fC hi)).2 (iU.mpr (C6 _))⟩) (by decide) (gK hm 1)).mono
  |_=>cases hs
 |@Mt c ls x as bs hc U ih=>
  refine cps λP9 k9=>?_
  obtain ⟨a,b,e,h1,h2⟩:=h;obtain ⟨y,rfl⟩:=h1.one hc;cases e;obtain ⟨q1,q2⟩:=ih h2;refine k9 ?_;exact ⟨all_cons (Ka hn X6 h1 x (.head _)) q1,congrArg (·+1) q2⟩
theorem MP(hn:n<=2)(h0:0<=many)(hm:many<=9)(hp:(name,form)∈fY)(h:ef many n (form.map eY) as)(hb:yy many name (form.map eY) as d):Wr d:=by
 have g:=tz hn (aX hm (by decide)) h
 have gt:=λx hx=>g x (fC hx)
 refine FQ hp h λw h3=>?_
 have lt:∀x:D,(x::as.tail).length<=7:=λx=>by rw[bP,jW];exact aw (ac (jO _ _) h3)
 cases hb with
 |w0=>exact FP (.head _) (aa (rfl)) (rfl) g (bp h3)
 |w1=>exact w _ (λx hx=>g x ((List.dropLast_sublist as).subset hx)) (by rw[ke];exact ac (jO _ _) (bp h3))
 |w2=>exact w _ (λx hx=>(bf.mp hx).elim (g x) (all_cons (P:=λx=>Gz 3 x 47) ((vG 3 (by decide) (by decide)).mono) (all_nil _) x)) (by rw[ae];exact aw h3)
 |w3=>exact w _ (all_cons (abo 3).mono gt) (lt _)
 |pl q=>exact w _ (CS hn h0 hm q h).1 ((CS hn h0 hm q h).2▸bp h3)
 |el=>exact w _ (all_cons ((p7 (all_cons (vG 2 (aX (by decide) h0) hm) (all_nil _)) (ax 1) rfl rfl).mono) gt) (lt _)
theorem Ox(h:AH many (.int i)=true):0<=i/\i<many:=⟨of_decide_eq_true (aj.mp h).1,of_decide_eq_true (aj.mp h).2⟩
theorem Kb(hm:many<=9){sh:D}(h:xx many sh):Wr sh:=by
 obtain ⟨ps,rfl,h1,h2⟩:=h;have iv k {i:Int} h:Gz k (.int i) 2:=vG k (aX (by decide) (Ox h).1) (aX (c9 (Ox h).2) hm)
 have tt k {s:Tx} h:Gz (k+1) (dO (tx "text") [.str s]) 30:=lg (by decide+kernel) (ax 4) (rfl) (all_cons (Rl k h) (all_nil _)) (ax 1) rfl
 refine Gz.wr (p7 (n:=210) (λp hp=>?_) h1 rfl ?_).mono
 ·cases h2 p hp with
  |text h=>exact (tt 2 (iz.mp (of_map (f:=λs=>mV.contains s) (g:=λU=>true) h))).mono
  |int h=>exact (lg (by decide+kernel) (ax 3) (by kernel_rfl) (all_cons (iv 2 h) (all_nil _)) (ax 1) rfl).mono
  |bool h=>exact (lg (by decide+kernel) (ax 4) (by kernel_rfl) (all_cons (iv 2 h) (all_nil _)) (ax 1) rfl).mono
  |@list i k h=>exact (lg (by decide+kernel) (ax 4) (rfl) (all_cons (p7 (m:=2) (λx hx=>all_cons (P:=λx=>Gz 1 x 30) (lg (by decide+kernel) (ax 3) (by kernel_rfl) (all_cons (iv 0 h) (all_nil _)) (ax 1) rfl).mono (all_cons (tt 0 (by decide+kernel)) (all_nil _)) x (cU hx)) (List.length_take▸gY _ _) rfl (by cases k<;>rfl)) (all_nil _)) (ax 1) rfl).mono
  |R0 h=>exact (lg (m:=3) (by decide+kernel) (ax 2) (rfl) (all_cons (iv 2 h).mono (all_cons (p7 (k:=1) (all_cons (tt 0 (by decide+kernel)) (all_cons (lg (by decide+kernel) (ax 4) (by kernel_rfl) (all_cons (iv 0 h) (all_nil _)) (ax 1) rfl).mono (all_nil _))) (ax 2) rfl rfl) (all_cons (p7 (n:=0) (all_nil _) (ax 0) rfl rfl).mono (all_nil _)))) (ax 3) rfl).mono
 ·cases ps with
  |nil=>rfl
  |cons p ps=>cases h2 p (.head _)<;>rfl
end
noncomputable def C_(L x:Int):Prop:=0<=x/\x<=L
class inductive Sg (L:Int):Nat->dA->Prop
 |fin {n:Nat} {e:Int}:C_ L e->Sg L n (.fin e)
 |bad {n:Nat} {x:Int}:C_ L x->Sg L n (.bad x)
 |cons {n:Nat} {k:Tk} {S:dA}:C_ L k.p->j_ k [59]=false->Sg L n S->Sg L (n+1) (.cons k S)
inductive Sf(L:Int):Nat->Tk->dA->Prop
 |fin {n:Nat} {e:Int}:C_ L e->Sf L n ⟨.e,e⟩ (.fin e)
 |tok {n:Nat} {k:Tk} {S:dA}:C_ L k.p->j_ k [59]=false->Sg L n S->Sf L (n+1) k S
inductive Nt(L:Int)(n:Nat)(S:dA):Prop
 |exc {x:Int}:C_ L x->(∀k,ez k S= .exc x)->Nt L n S
 |ok {k':Tk} {S':dA}:At S k' S'->Sf L n k' S'->Nt L n S
inductive Rz(L:Int)(n:Nat){α:Type}(R:Out α->Prop):Prop
 |exc {x:Int}:C_ L x->R (.exc x)->Rz L n R
 |ok {a:α} {k:Tk} {S:dA}:R (.ok a k S)->Sf L n k S->Rz L n R
noncomputable def vd(o:Out D):Out V:=match o with
 | .exc x=>.exc x
 | .ok d k S=>.ok (.d d) k S
noncomputable def uz(fs:List Frame)(c:Nat):Prop:=fs.length<=c/\∀f∈fs,f.1.length<=c/\f.2.length<=100
inductive Kz(L:Int)(n c:Nat)(o:Out (Ph×List Frame)):Prop
 |exc {x:Int}:C_ L x->o= .exc x->Kz L n c o
 |ok {ph:Ph} {fs:List Frame} {k:Tk} {S:dA}:o= .ok (ph,fs) k S->Sf L n k S->uz fs c->Kz L n c o
section
variable{L:Int}{n m c:Nat}{k k':Tk}{S S':dA}{s:Tx}{f:Frame}{fs:List Frame}{ph:Ph}{α:Type}{R R':Out α->Prop}{o:Out (Ph×List Frame)}
theorem Sg.up(h:Sg L n S):Sg L (n+1) S:=by
 induction h with
 |fin h=>exact .fin h
 |bad h=>exact .bad h
 |cons a b U ih=>exact .cons a b ih
theorem Sf.up(h:Sf L n k S):Sf L (n+1) k S:=by
 cases h with
 |fin h=>exact .fin h
 |tok a b h=>exact .tok a b h.up
theorem Sf.pre(h:Sf L (n - 1) k S):Sf L n k S:=by
 cases n with
 |zero=>exact h
 |succ n=>exact h.up
theorem Sg.next(h:Sg L n S):Nt L n S:=by
 cases h with
 |fin h=>exact .ok (λU=>rfl) (.fin h)
 |bad h=>exact .exc h λU=>rfl
 |cons a b h=>exact .ok (AR _ _) (.tok a b h)
theorem Sf.Oh(h:Sf L n k S):C_ L k.p:=by
 cases h with
 |fin h=>exact h
 |tok a U J=>exact a
theorem Sf.no(h:Sf L n k S):j_ k [59]=false:=by
 cases h with
 |fin h=>rfl
 |tok U b J=>exact b
theorem Sf.next(h:Sf L n k S):Nt L n S:=by
 cases h with
 |fin h=>exact .ok (λU=>rfl) (.fin h)
 |tok a b h=>cases h.next with
  |exc a b=>exact .exc a b
  |ok a b=>exact .ok a b.up
theorem Rz.map(h:Rz L n R)(f:∀o,R o->R' o):Rz L n R':=by
 cases h with
 |exc a b=>exact .exc a (f _ b)
 |ok a b=>exact .ok (f _ a) b
theorem Sf.want(h:Sf L n k S)(s:Tx):Rz L (n - 1) (λo=>eP s k S=o):=by
 have no (e:j_ k s=false):eP s k S= .exc k.p:=by unfold eP;rw[e];rfl
 cases h with
 |fin h=>exact .exc h (no rfl)
 |tok a b h=>cases e:j_ k s with
  |false=>exact .exc a (no e)
  |true=>cases h.next with
   |exc q1 q2=>exact .exc q1 (by unfold eP;rw[e,q2];rfl)
   |ok q1 q2=>exact .ok (oE q1 e) q2
theorem Sf.num(h:Sf L n k S):Rz L (n - 1) (λo:Out Int=>pNum k S=match o with| .exc x=>.exc x| .ok i k S=>.ok (tI i) k S):=by
 cases h with
 |fin h=>exact .exc h rfl
 |@tok n k S a b h=>
  obtain ⟨d,p⟩:=k;cases d with
  |i i=>cases h.next with
   |exc q1 q2=>exact .exc q1 (by show (ez _ S).bind _=_;rw[q2];rfl)
   |ok q1 q2=>exact .ok (Hr q1 _) q2
  |_=>exact .exc a rfl
theorem FR(h:Sf L n k S)(hf:uz (f::fs) c):Kz L (n - 1) c (gW f fs k S):=by
 have w (e:j_ k [44]=false):Kz L (n - 1) c (gW f fs k S):=by
  have u:gW f fs k S=(eP f.2 k S).bind λU k S=>.ok (some (.tup f.1),fs) k S:=by unfold gW;rw[e];rfl
  cases h.want f.2 with
  |exc a b=>exact .exc a (by rw[u,b];rfl)
  |ok a b=>exact .ok (by rw[u,a];rfl) b (⟨cg hf.1,λg hg=>hf.2 g (.tail _ hg)⟩)
 cases h with
 |fin U=>exact w rfl
 |tok a b h=>cases e:j_ k [44] with
  |false=>exact w e
  |true=>
   have u:gW f fs k S=(ez k S).bind λU k S=>.ok (none,f::fs) k S:=by unfold gW;rw[e];rfl
   cases h.next with
   |exc q1 q2=>exact .exc q1 (by rw[u,q2];rfl)
   |ok q1 q2=>exact .ok (u.trans (Hr q1 _)) q2 hf
theorem Kz.pre(h:Kz L (n - 1) c o):Kz L n c o:=by
 cases h with
 |exc a b=>exact .exc a b
 |ok a b c=>exact .ok a b.pre c
theorem W2(h:Sf L n k S)(hf:uz (f::fs) c):Kz L n c (CA f fs k S):=by
 unfold CA;cases j_ k f.2 with
 |true=>exact (FR h hf).pre
 |false=>exact .ok rfl h hf
theorem uz.push(h:uz fs c)(h1:f.1.length<=c+1)(h2:f.2.length<=100):uz (f::fs) (c+1):=⟨aw h.1,λg hg=>by
 cases hg with
 |head=>exact ⟨h1,h2⟩
 |tail U hg=>exact ⟨bp (h.2 g hg).1,(h.2 g hg).2⟩⟩
theorem uz.up(h:uz fs c):uz fs (c+1):=⟨bp h.1,λf hf=>⟨bp (h.2 f hf).1,(h.2 f hf).2⟩⟩
theorem W3(hk:C_ L k.p)(h:Sg L n S)(hf:uz fs c):Kz L n (c+1) (oz fs k S):=by
 unfold oz;cases h.next with
 |exc q1 q2=>exact .exc q1 (by rw[q2];rfl)
 |@ok k1 S1 q1 q2=>
  rw[Hr q1];cases isWord k.d&&j_ k1 [40] with
  |true=>cases q2.next with
   |exc r1 r2=>exact .exc r1 (by rw[r2];rfl)
   |ok r1 r2=>rw [Hr r1];exact W2 r2 (hf.push (aw (aZ _)) (aa rfl))
  |false=>cases j_ k [91] with
   |true=>exact W2 q2 (hf.push (aZ _) (aa rfl))
   |false=>cases zo k.d with
    |none=>exact .exc hk rfl
    |some v=>exact .ok rfl q2 hf.up
theorem KA(h:c+n<=900)(hm:m<=c):m<lim:=bi (ac hm (ac (ak _ _) h)) (aa rfl)
theorem pdE{e:Int}(h:C_ L e)(hf:uz fs c)(hl:c+n<=900):Rz L n (λo=>PD ph fs ⟨.e,e⟩ (.fin e) (vd o)):=by
 cases ph with
 |none=>exact .exc h (.opx (KA hl hf.1) rfl)
 |some v=>cases fs with
  |nil=>exact .ok .ret (.fin h)
  |cons f fs=>exact .exc h (.clx (KA hl (cg hf.1)) (KA hl (hf.2 f (.head _)).1) (hf.2 f (.head _)).2 rfl)
theorem Rz.up(h:Rz L n R):Rz L (n+1) R:=by
 cases h with
 |exc a b=>exact .exc a b
 |ok a b=>exact .ok a b.up
theorem pdT:∀{c k S fs ph},Sf L n k S->uz fs c->c+n<=900->Rz L n (λo=>PD ph fs k S (vd o)):=by
 induction n with
 |zero=>exact λh hf hl=>by cases h with|fin h=>exact pdE h hf hl
 |succ n ih=>
  intro c k S fs ph h hf hl;have ih {ph FA k' S'} (b:Sf L n k' S') (d:uz FA (c+1)):=(ih (ph:=ph) b d (by rw[bD];exact hl)).up
  cases h with
  |fin h=>exact pdE h hf hl
  |tok a b h=>
   cases ph with
   |none=>cases W3 a h hf with
    |exc a b=>exact .exc a (.opx (KA hl hf.1) b)
    |ok a b d=>exact (ih b d).map λU p=>.op (KA hl hf.1) a p
   |some v=>cases fs with
    |nil=>exact .ok .ret (.tok a b h)
    |cons f fs=>
     have hff:=hf.2 f (.head _);cases FR (f:=(f.1++[v],f.2)) (c:=c+1) (.tok a b h) ⟨bp hf.1,λg hg=>by
       cases hg with
       |head=>exact ⟨by rw[ae];exact aw hff.1,hff.2⟩
       |tail U hg=>exact ⟨bp (hf.2 g (.tail _ hg)).1,(hf.2 g (.tail _ hg)).2⟩⟩ with
     |exc a b=>exact .exc a (.clx (KA hl (cg hf.1)) (KA hl hff.1) hff.2 b)
     |ok a b d=>exact (ih b d).map λU p=>.cl (KA hl (cg hf.1)) (KA hl hff.1) hff.2 a p
end
noncomputable def rvd(o:Out Rg):Out V:=match o with
 | .exc x=>.exc x
 | .ok r k S=>.ok (.d (yl r)) k S
section
variable{L:Int}{n m c:Nat}{k h:Tk}{S:dA}{last:Option Int}{fd:List Rg}{M:Md}
theorem psT(h:Sf L n k S):Rz L (n - 1) (λo=>PS last k S (rvd o)):=by
 cases h.num with
 |exc a b=>exact .exc a (.x1 b)
 |@ok i k1 S1 e1 h1=>cases h1.want tf with
  |exc a b=>exact .exc a (.x2 e1 b)
  |@ok v k2 S2 e2 h2=>cases h2.num with
   |exc a b=>exact .exc a (.x3 e1 e2 b)
   |@ok j k3 S3 e3 h3=>cases e:G2 last i j with
    |true=>exact .exc h.Oh (.bad e1 e2 e3 e)
    |false=>exact .ok (.ok e1 e2 e3 e) h3.pre.pre
theorem plT:∀{fd k S},Sf L n k S->fd.length+n<=900->Rz L n (λo=>PL fd k S o):=by
 have lt {c n m:Nat} (h:c+n<=900) hm:m<lim:=KA h hm
 induction n with
 |zero=>
  intro fd k S h hl;cases h with
  |fin h=>
   rcases pE fd with rfl|⟨fd,q,rfl⟩
   ·exact .exc h (.G4 rfl (.x1 rfl))
   ·rw[pF] at hl⊢;exact .exc h (.QS rfl (lt hl (ax _)) rfl)
 |succ n ih=>
  intro fd k S h hl;cases e:j_ k [125] with
  |true=>exact .ok (.stop e (cf (lt hl (ax _)))) h
  |false=>
   have ih {vr:List Rg} {k':Tk} {S':dA} (b:Sf L n k' S') (d:vr.length=fd.length+1):=(ih b (by rw[d,bD];exact hl)).up
   rcases pE fd with rfl|⟨fd,q,rfl⟩
   ·cases psT h with
    |exc a b=>exact .exc a (.G4 e b)
    |@ok r k' S' a b=>exact (ih b rfl).map λU p=>.xb e a p
   ·rw[pF] at*;have l1:=lt hl (ax _);cases h.want [44] with
    |exc a b=>exact .exc a (.QS e l1 b)
    |ok e1 b=>cases psT b with
     |exc a b=>exact .exc a (.N3 e l1 e1 b)
     |@ok r k' S' a b=>exact (ih b.pre (by rw[ae];rfl)).map λU p=>.more e l1 e1 a p
theorem abq(h:Sf L n k S)(hl:n<=900):Rz L n (λo=>rZ k S (vd o)):=by
 cases e:j_ k [123] with
 |false=>cases psT h with
  |exc a b=>exact .exc a (.G4 e b)
  |@ok r k' S' a b=>exact .ok (.xb e a) b.pre
 |true=>cases h.next with
  |exc a b=>exact .exc a (.pY e (b k))
  |ok e1 h1=>cases plT h1 (by rw[dR,bA];exact hl) with
   |exc a b=>exact .exc a (.N4 e (e1 k) b)
   |@ok fd k2 S2 e2 h2=>cases h2.next with
    |exc a b=>exact .exc a (.N5 e (e1 k) e2 (b k2))
    |ok e3 h3=>exact .ok (.many e (e1 k) e2 (e3 k2)) h3
theorem Oy(h:Sf L n k S)(hl:n<=900):Rz L n (λo=>PD none [] k S (vd o)):=pdT (c:=0) h ⟨ax _,λU h=>absurd h bu⟩ (by rw[bA];exact hl)
noncomputable def X7(M:Md):Prop:=M.vs.length<=100/\M.ts.length<=100/\M.ps.length<=100
theorem W4(hh:C_ L h.p)(hM:X7 M)(hk:Sf L n k S)(hl:n<=900):Rz L n (λo=>pd M h k S o):=by
 cases b1:AD h qP with
 |true=>cases abq hk hl with
  |exc a b=>exact .exc a (.var b1 (.VR b))
  |ok e1 h1=>cases h1.want [58] with
   |exc a b=>exact .exc a (.var b1 (.CB e1 b))
   |@ok v k2 S2 e2 h2=>cases b:isName k2.d with
    |false=>exact .exc h2.Oh (.var b1 (.N6 e1 e2 b))
    |true=>cases h2.next with
     |exc a q=>exact .exc a (.var b1 (.pY e1 e2 b (q k2)))
     |ok e3 h3=>exact .ok (.var b1 (.ok e1 e2 b (e3 k2) (lt100 hM.1))) h3.pre
 |false=>cases b2:AD h ux with
  |true=>cases Oy hk hl with
   |exc a b=>exact .exc a (.con b1 b2 (.x (lt100 hM.2.2) b))
   |ok e1 h1=>exact .ok (.con b1 b2 (.ok (lt100 hM.2.2) (lt100 hM.2.1) e1)) h1
  |false=>cases b3:AD h yv with
   |true=>
    by_cases g:M.gs≥0
    ·exact .exc hh (.sol b1 b2 b3 (.two g))
    cases hk.next with
    |exc a b=>exact .exc a (.sol b1 b2 b3 (.pY g (b k)))
    |@ok k1 S1 e1 h1=>cases b:isWord k.d&&kW Ku k.d.D with
     |false=>exact .exc hk.Oh (.sol b1 b2 b3 (.bad g (e1 k) b))
     |true=>cases b4:N7 k with
      |true=>exact .ok (.sol b1 b2 b3 (.N7 g (e1 k) b b4)) h1
      |false=>cases h1.num with
       |exc a q=>exact .exc a (.sol b1 b2 b3 (.VS g (e1 k) b b4 q))
       |ok e2 h2=>exact .ok (.sol b1 b2 b3 (.num g (e1 k) b b4 e2)) h2.pre
   |false=>cases b4:AD h xg with
    |false=>exact .exc hh (.non b1 b2 b3 b4)
    |true=>
     by_cases g:M.ss≥0
     ·exact .exc hh (.out b1 b2 b3 b4 (.two g))
     cases Oy hk hl with
     |exc a b=>exact .exc a (.out b1 b2 b3 b4 (.x g b))
     |ok e1 h1=>exact .ok (.out b1 b2 b3 b4 (.ok g e1)) h1
theorem W5(hM:X7 M)(h:Sf L n k S)(hl:n<=900):∃x,uX M k S (.exc x)/\C_ L x:=by
 cases h.next with
 |exc a b=>exact ⟨_,.pY (b k),a⟩
 |ok e1 h1=>cases W4 h.Oh hM h1 hl with
  |exc a b=>exact ⟨_,.N8 (e1 k) b,a⟩
  |@ok M' k2 S2 e2 h2=>exact ⟨_,.CB (e1 k) e2 (by unfold eP;rw[h2.no];rfl),h2.Oh⟩
end
noncomputable def Kc(u:Tx):QR->Prop
 | .ok _ r=>r<:+u
 | .vy w=>w<:+u
 | .zm _=>True
inductive Tg(t v:Tx):Prop
 |bad {x:Int}:Tok t v (.bad x)->C_ t.length x->Tg t v
 |ok {d:Tv} {rest:Tx}:Tok t v (.tok d rest)->rest<:+v.tail->(∀p,j_ ⟨d,p⟩ [59]=false)->Tg t v
section
theorem Kc.cons(h:Kc u q)(hs:u<:+v):Kc v (q.cons d):=by
 cases q with
 |ok a r=>exact kP h hs
 |vy w=>exact kP h hs
 |zm w=>trivial
theorem MQ:∀{u:Tx},u.length<=n->Kc u (tc u):=by
 induction n with
 |zero=>intro u h;cases di.mp (i8.mp h);unfold tc;trivial
 |succ n ih=>
  intro u h;cases u with
  |nil=>unfold tc;trivial
  |cons c u=>
   have s1:u<:+c::u:=dW c u;unfold tc
   by_cases h1:c=10
   ·rw[if_pos h1];trivial
   rw[if_neg h1]
   by_cases h2:c=34
   ·rw[if_pos h2];exact s1
   rw[if_neg h2]
   by_cases h3:c=92
   ·rw[if_pos h3];cases u with
    |nil=>exact cu _
    |cons d u=>
     show Kc _ (if d=110 then _ else _)
     by_cases d1:d=110
     ·rw[if_pos d1];exact ((ih (cg (bK h))).cons ((dW d u).trans s1))
     rw[if_neg d1]
     by_cases d2:d=34\/d=92
     ·rw[if_pos d2];exact ((ih (cg (bK h))).cons ((dW d u).trans s1))
     rw[if_neg d2];exact cu _
   ·rw[if_neg h3];exact (ih (bK h)).cons s1
theorem Rm:∀{u:Tx},u.length<=n->∃v,ie u v:=by
 induction n with
 |zero=>intro u h;cases di.mp (i8.mp h);exact ⟨[],.stop (u:=[]) nofun⟩
 |succ n ih=>
  intro u h;cases hx:u.dropWhile (iO bl) with
  |nil=>exact ⟨_,.stop (by rw[hx];exact nofun)⟩
  |cons c x=>
   by_cases q:c=37
   ·subst q;have h1:=(bW (iO bl) (l:=u)).length_le;rw[hx] at h1
    refine (ih (ac (bW (l:=x) rW).length_le (bK (ac h1 h)))).elim λv hv=>?_
    exact ⟨v,.more hx hv⟩
   ·exact ⟨_,.stop (by rw[hx];exact λe=>q (c6 e).1)⟩
theorem Rn(h:ds w≠[])(h2:(ds w).length<=640):∃i,fS (S (ds w))=some i:=
 ⟨_,PySem.intText_digits (λc hc=>by
  have q:=of_map (f:=λc=>(b7 48 c,b7 c 57)) (g:=λU=>(true,true)) (of_decide_eq_true (aJ.mp List.all_takeWhile c hc):c∈dg)
  exact ⟨aa (cS q).1,aa (cS q).2⟩) h (ac h2 (aa rfl))⟩
theorem bq{a b:Nat}(h:¬a=b):([a]==[b])=false:=beq_eq_false_iff_ne.mpr λe=>h (c6 e).1
theorem abr(hv:c::x<:+t)(h5:59∉c::x)(hl:(c::x).length<=640):Tg t (c::x):=by
 have num {neg:Bool} {w:Tx} (e:sg neg w=c::x) (hw:w.dropWhile (iO dg)<:+x\/ds w=[]) (hl:w.length<=640) (k:Tok t (sg neg w) (Cw neg w (dV t (sg neg w)))):Tg t (c::x):=by
  rw[e] at k;unfold Cw at k
  by_cases q1:ds w=[]
  ·rw[if_pos q1] at k;exact .bad k (j4 hv)
  rw[if_neg q1] at k;have l3:(ds w).length<=640:=ac (List.takeWhile_prefix _).length_le hl;refine (Rn q1 l3).elim λi hi=>?_
  rw[if_pos l3,hi] at k;exact .ok k (hw.resolve_right q1) λU=>rfl
 by_cases h1:c=34
 ·subst h1;have k:=Tok.tc (t:=t) (x:=x);have s:=MQ (u:=x) (ax _)
  cases e:tc x<;>rw [e] at k s
  ·exact .ok k s λU=>rfl
  ·exact .bad k (j4 (kP s (dw hv)))
  ·exact .bad k (j4 hv)
 by_cases h2:c=45
 ·subst h2;exact num (neg:=true) rfl (.inl (bW _)) (cg hl) (.num rfl nofun)
 cases h3:iO dg c with
 |true=>exact num (neg:=false) rfl (.inl (by rw[cM h3];exact bW _)) hl (.num (bq h2) λU=>⟨c,x,rfl,bq h1,h3⟩)
 |false=>cases h4:iO lets c with
  |true=>exact .ok (.XW (bq h1) (bq h2) h3 h4) (by
    rw[cM (of_map (f:=iO Hp) (g:=λU=>true) (of_decide_eq_true h4):iO Hp c=true)];exact bW _) λU=>rfl
  |false=>cases h6:(c::x).take 2==[46,46] with
   |true=>
    cases x with
    |nil=>exact absurd (eq_of_beq h6) nofun
    |cons d y=>
     obtain ⟨rfl,e⟩:=c6 (eq_of_beq h6);cases e;exact .ok .tf (dW _ _) λU=>rfl
   |false=>cases h7:iO L7 c with
    |true=>exact .ok (.sgn (bq h1) (bq h2) h3 h4 h6 h7) (cu _) λU=>bq λe=>h5 (by rw[e];exact .head _)
    |false=>exact .bad (.bad (bq h1) (bq h2) h3 h4 h6 h7) (j4 hv)
theorem smT:∀{u:Tx},u.length<=n->u<:+t->59∉u->n<=640->∃S,Sm t u S/\Sg t.length n S:=by
 induction n with
 |zero=>intro u h hu _ _;cases di.mp (i8.mp h);exact ⟨_,.fin hu (.stop (u:=[]) nofun),.fin (j4 iI)⟩
 |succ n ih=>
  intro u h hu h5 hl;refine (Rm (ax u.length)).elim λv hv=>?_
  have vs:=hv.w_;cases v with
  |nil=>exact ⟨_,.fin hu hv,.fin (j4 iI)⟩
  |cons c x=>cases abr (vs.trans hu) (λq=>h5 (vs.subset q)) (ac (ac vs.length_le h) hl) with
   |bad k r=>exact ⟨_,.bad hu hv k,.bad r⟩
   |ok k r no=>
    obtain ⟨S,s1,s2⟩:=ih (ac (r:_<:+x).length_le (bK (ac vs.length_le h))) ((r:_<:+x).trans (dw (vs.trans hu))) (λq=>h5 (vs.subset (.tail _ ((r:_<:+x).subset q)))) (cg hl)
    exact ⟨_,.cons hu hv k s1,.cons (j4 (vs.trans hu)) (no _) s2⟩
end
noncomputable abbrev Oz:Vr:=(tx "b0",[(0,1)])
noncomputable abbrev OA:Vr:=(tx "b1",[(0,1)])
structure ej(M:LM):Prop where
 vs:∃r,M.vs=Oz::OA::r/\r.length<=2/\∀v∈r,v.1∈r6/\v.2∈ij
 ts:∀d∈M.ts,LT M.vs.length d
 tl:M.ts.length<=2
 goal:M.gk=tx "satisfy"/\M.gv=none\/(M.gk=tx "minimize"\/M.gk=tx "maximize")/\∃i:Int,M.gv=some i/\0<=i/\i<M.vs.length
 sh:xx M.vs.length M.sh
noncomputable abbrev LM.so(M:LM):Sol:=some (M.gk,M.gv)
noncomputable abbrev LM.its(M:LM):List It:=vF M.vs M.ts M.so (some M.sh) []
noncomputable def xI(its:List It):List Tx:=(its.map It.P).flatten
noncomputable def It.b(i:It):List Tx:=i.hd::tx " "::i.B
noncomputable abbrev texts(its:List It):Tx:=(xI its).flatten
section
variable{M:LM}{Z:Tk->dA->Prop}
theorem ej.many(h:ej M):M.vs.length<=4:=by
 obtain ⟨r,e,h1, -⟩:=h.vs;rw[e];exact aw (aw h1)
theorem ej.m9(h:ej M):((M.vs.length:Nat):Int)<=9:=aX (c_.mpr h.many) (by decide)
theorem ej.vars(h:ej M):∀v∈M.vs,v.1∈lJ/\v.2∈ij:=by
 obtain ⟨r,e, -,h2⟩:=h.vs;rw[e];intro v hv;cases hv with
 |head=>exact ⟨.head _,by decide⟩
 |tail U hv=>cases hv with
  |head=>exact ⟨.tail _ (.head _),by decide⟩
  |tail U hv=>exact ⟨.tail _ (.tail _ (h2 v hv).1),(h2 v hv).2⟩
theorem ej.b01(h:ej M):Wp (M.vs.map Vr.D):=by
 obtain ⟨r,e, -⟩:=h.vs;rw[e];exact ⟨_,_,_,rfl⟩
theorem ej.good(h:ej M):∀d∈M.ts,∀N,Good (N+6) (M.vs.map Vr.D) d:=λd hd N=>Ms h.b01 (by rw[lv];exact h.ts d hd)
theorem ej.wr(h:ej M):∀d∈M.ts,Wr d:=λd hd=>W1 (aX h.m9 (by decide)) (h.ts d hd)
theorem ej.ok(h:ej M):M.Ok where
 vs:=h.vars
 vl:=ac h.many (by decide)
 ts:=h.wr
 tl:=ac h.tl (by decide)
 gk:=h.goal.elim (λq=>.inl q.1) λq=>.inr q.1
 gv:=λi e=>by
  rcases h.goal with ⟨-,e2⟩|⟨-,j,e2,h0,h1⟩
  ·rw[e2] at e;cases e
  ·rw[e2] at e;cases e;exact ⟨aX (by decide) h0,aX (c9 h1) h.m9⟩
 sh:=Kb h.m9 h.sh
theorem nG:M.items=M.its.map It.P:=by
 show M.items=(M.vs.map It.var++(M.ts.map It.con++[It.sol M.gk M.gv,It.out M.sh])).map It.P;simp only [aH,aH,bR,bR];rfl
theorem nH:M.text=texts M.its:=by rw[texts,xI,<-nG,qi];rfl
theorem LM.Ok.MR(h:M.Ok):∀i∈M.its,Itm i.b=true:=λi hi=>by
 obtain ⟨b,e,hb⟩:=h.itm i.P (nG▸kN hi);rw[It.Hg] at e;exact List.append_cancel_right (as:=i.b) e▸hb
theorem LM.Ok.OB(h:M.Ok)(hg:(It.sol M.gk M.gv).Ok):∀i∈M.its,i.Ok:=λi hi=>by
 rcases bf.mp hi with hi|hi
 ·obtain ⟨v,hv,rfl⟩:=br.mp hi;exact h.vs v hv
 rcases bf.mp hi with hi|hi
 ·obtain ⟨d,hd,rfl⟩:=br.mp hi;exact (h.ts d hd).1
 cases hi with
 |head=>exact hg
 |tail U hi=>cases hi with
  |head=>exact h.sh.1
  |tail U hi=>cases hi
theorem ej.OC(h:ej M):(It.sol M.gk M.gv).Ok:=by
 rcases h.goal with q|⟨q,i,e,h0,h1⟩
 ·exact .inl q
 ·exact .inr ⟨q,i,e,decide_eq_true ⟨aX (by decide) h0,aX (aX (c9 h1) h.m9) (by decide)⟩⟩
theorem ej.MU(h:ej M):∀i∈M.its,i.Ok:=h.ok.OB h.OC
theorem AV(h:ej M):AJ M.vs.length (Bi M.so):=by
 rcases h.goal with ⟨-,e2⟩|⟨-,i,e2,h0,h1⟩
 ·exact ⟨.str M.gk,.inl (by show D.tup [.str M.gk,CO M.gv]=_;rw[e2];rfl)⟩
 ·exact ⟨.str M.gk,.inr ⟨i,by show D.tup [.str M.gk,CO M.gv]=_;rw[e2];rfl,h0,h1⟩⟩
theorem Kd:xI (a++b)=xI a++xI b:=by unfold xI;rw[aH,bJ]
theorem jM:texts (a++b)=texts a++texts b:=by rw[texts,Kd,bJ]
theorem Es(h:vE ps=true):MK ps=true:=vE.all h
theorem vZ(h:MK p=true)(h':MK q=true):MK (p++q)=true:=vO.trans (by rw[show p.all _=true from h,show q.all _=true from h'];rfl)
theorem MV(h:∀i∈its,Itm i.b=true):MK (xI its)=true:=by
 induction its with
 |nil=>rfl
 |cons i its ih=>
  show MK (i.P++xI its)=true;rw[It.Hg];exact vZ (vZ (Es (Itm.in (h i (.head _)))) (rfl)) (ih λj hj=>h j (.tail _ hj))
theorem Rt.low(h:Rt t w e Z):Rt t w false Z:=by cases h with|mk a b U d=>exact ⟨a,b,nofun,d⟩
theorem Rt.items(hi:∀i∈its,i.Ok)(hp:∀i∈its,Itm i.b=true)(h:Rt t w e (PZ Q W))(hu:texts its++w<:+t):Rt t (texts its++w) false (PZ Q (C' W its)):=by
 have r:=Rq.items hi (.nil h.low);rw[au] at r
 exact (r _ (.plain (MV hp)) hu).low
theorem ej.p8(h:ej M):M.text.length<=lim:=rj h.ok.len
theorem OD(h:ej M):Hh M.text (M.vs.map Vr.D) M.ts (Bi M.so) M.sh:=by
 have r:=Rt.items h.MU h.ok.MR (Rt.fin (W:=Fin (M.vs.map Vr.D) M.ts (Bi M.so) M.sh λU=>True) Kw.mk) (by rw[au,<-nH];exact cu _)
 rw[au,<-nH] at r;have q:=AS (V2:=[]) (so:=M.so) (ou:=some M.sh) (ac h.many (by decide)) (ac h.tl (by decide))
 rw[au] at q;exact qK h.p8 r q (ac h.many (by decide)) h.good (AV h) h.sh
theorem W6(h:ej M)(hv:V1++V2=M.vs)(hs:Sp (xI (vF V1 M.ts M.so (some M.sh) V2)) t)(ht:t.length<=lim):Hh t (M.vs.map Vr.D) M.ts (Bi M.so) M.sh:=by
 have r:=Rq.items (t:=t) (its:=vF V1 M.ts M.so (some M.sh) V2) (λi hi=>h.MU i (by
  show i∈M.vs.map It.var++(M.ts.map .con++Hs M.so (some M.sh));rw[<-hv,aH];rcases bf.mp hi with hi|hi
  ·exact bj _ (bj _ hi)
  rw[<-ai] at hi;exact (bf.mp hi).elim (λhi=>aU _ hi) λhi=>bj _ (aU _ hi))) (.nil (Rt.fin (W:=Fin ((V1++V2).map Vr.D) M.ts (Bi M.so) M.sh λU=>True) Kw.mk))
 rw[au] at r;have r:=r t hs (by rw[au];exact cu _)
 rw[au] at r;have q:=AS (so:=M.so) (ou:=some M.sh) (by rw[<-ae,hv];exact ac h.many (by decide)) (ac h.tl (by decide))
 rw[hv] at q r;exact qK ht r q (ac h.many (by decide)) h.good (AV h) h.sh
theorem Ro(h:Gd 4 (.tup l)):R1 (pu 4 (.tup l)++q)=true:=by
 refine h.elim λh U=>?_
 show R1 (CN l _++q)=true;unfold CN;cases e:Hq l with
 |none=>rfl
 |some s=>rw [e] at h;exact (Ow h).1
theorem Rp(hd:d'= .tup l)(hi:Gd 4 d')(h:Rt t w e (PZ Q W))(hu:tx "constraint "++((pu 4 d'++k_).flatten++w)<:+t)(hp:MK (pu 4 d'++k_)=true):Rt t (tx "constraint "++((pu 4 d'++k_).flatten++w)) true (PZ Q λM=>(It.con d').WU M/\W ((It.con d').WT (dV t ((pu 4 d'++k_).flatten++w)) M)):=by
 have tq:R1 (It.B (.con d')++k_)=true:=by subst hd;exact Ro hi
 refine ((Rq.body (i:=.con d') hi rfl (.semi (.nil h.low))) _ (.plain hp) ((cG (tx "constraint ") _).trans hu)).el λm a e z=>?_
 exact ((⟨m,a,λU=>e tq,e tq,z⟩:Rt t ((pu 4 d'++k_).flatten++w) true (λk S=>k.p=dV t ((pu 4 d'++k_).flatten++w)/\BZ Q W (.con d') k S)).bl (b:=tx " ") (.head _) ((cG (tx "constraint") _).trans hu)).tok (p:=tx "constraint") (d:=.w (tx "constraint")) (Ow (rfl)) (λU=>rfl) hu λF k S a z=>⟨rfl,λM hM=>ML.of (i:=.con d') a (z.2 M _ hM.1 (z.1▸hM.2))⟩
theorem ej.AW(h:ej M)(hd:M.ts=TA++d::TB)(hw:Wr d'):LM.Ok {M with ts:=TA++d'::TB}:={h.ok with
 ts:=λx hx=>by
  have q:∀x,x∈TA\/x∈TB->Wr x:=λx hx=>h.wr x (by
   rw[hd];exact hx.elim (λhx=>bj _ hx) λhx=>aU _ (.tail _ hx))
  rcases bf.mp hx with hx|hx
  ·exact q x (.inl hx)
  ·cases hx with
   |head=>exact hw
   |tail U hx=>exact q x (.inr hx)
 tl:=by
  have tl:=h.tl;rw[hd] at tl
  rw[ae] at tl⊢;exact ac tl (aa rfl)}
theorem W7(h:ej M)(hd:M.ts=TA++d::TB)(hf:∀N,pe (N+6) M.vs.length d')(hw:Wr d')(LA:d'= .tup l)(n:Nat):
  cl (n+13) 488 [tS (LM.text {M with ts:=TA++d'::TB})] []= .exc (((texts (M.vs.map .var++TA.map .con)).length+11:Nat):Int):=by
 have hok:=h.AW hd hw;have tl:TA.length+TB.length<=9:=by
  have q:(TA++d'::TB).length<=10:=hok.tl;rw[ae] at q
  exact bK q
 have ti:=nH (M:={M with ts:=TA++d'::TB})
 have hl:_<=lim:=rj hok.len;have io:=hok.OB h.OC
 have im:=hok.MR;have ei:LM.its {M with ts:=TA++d'::TB}=(M.vs.map .var++TA.map .con)++(.con d'::(TB.map .con++(Hs M.so (some M.sh)++[]))):=by
  show M.vs.map It.var++((TA++d'::TB).map It.con++_)=_;simp only [aH,ai,ai];rfl
 rw[ei] at io im ti
 generalize LM.text {M with ts:=TA++d'::TB}=t at*
 have ea:texts (.con d'::(TB.map .con++(Hs M.so (some M.sh)++[])))=tx "constraint "++((pu 4 d'++k_).flatten++texts (TB.map .con++(Hs M.so (some M.sh)++[]))):=by
  show (vD d'++xI _).flatten=_;rw[bJ,vD,ai,bJ,ai];rfl
 rw[jM,ea] at ti;have r1:=Rt.items (t:=t) (λi hi=>io i (aU _ (.tail _ hi))) (λi hi=>im i (aU _ (.tail _ hi))) (Rt.fin (W:=Fin (M.vs.map Vr.D) (TA++d'::TB) (Bi M.so) M.sh λps=>ps[TA.length]? =some (((texts (M.vs.map .var++TA.map .con)).length+11:Nat):Int)) Kw.mk) (by rw[au,ti];exact (cG _ _).trans ((cG (tx "constraint ") _).trans (cG _ _)))
 rw[au] at r1;have r3:=Rt.items (λi hi=>io i (bj _ hi)) (λi hi=>im i (bj _ hi)) (Rp LA hw.1 r1 (by rw[ti];exact cG _ _) (vZ (Es (AP 4 hw.1)) (rfl))) (by rw[<-ti];exact cu _)
 simp only [<-ti] at r3;have sp:dV t ((pu 4 d'++k_).flatten++texts (TB.map .con++(Hs M.so (some M.sh)++[])))=(((texts (M.vs.map .var++TA.map .con)).length+11:Nat)):=by
  rw[ti,<-ai,j',ae];rfl
 rw[sp] at r3;refine J9 hl r3 (qJ (xG ?_ (xH ?_ ?_ λqs hq=>⟨⟨?_,?_⟩,qJ (xH ?_ ?_ λX8 SO=>qJ (J7 λgs ss=>?_))⟩))) (ac h.many (aa rfl)) (λd hd' N=>h.good d (by rw[hd];exact bj _ hd') N) hf
 ·show 0+M.vs.length<=100;rw[bA];exact ac h.many (aa rfl)
 ·show 0+TA.length<=100;rw[bA];exact ac (ak _ _) (ac tl (by decide))
 ·show 0+TA.length<=100;rw[bA];exact ac (ak _ _) (ac tl (by decide))
 ·show TA.length<=100;exact ac (ak _ _) (ac tl (by decide))
 ·show (qs.map D.int).length<=100;rw[af,hq];exact ac (ak _ _) (ac tl (by decide))
 ·show (TA++[d']).length+TB.length<=100;rw[ae,bD];exact ac (aw tl) (by decide)
 ·show (qs.map D.int++[D.int _]).length+TB.length<=100;rw[ae,af,hq,bD];exact ac (aw tl) (by decide)
 ·show Fin _ _ _ _ _ ⟨M.vs.map Vr.D,TA++[d']++TB,qs.map D.int++[D.int _]++X8.map D.int,Bi M.so,M.sh,gs,ss⟩;simp only [ai,ai,show qs.map D.int++([D.int (((texts (M.vs.map .var++TA.map .con)).length+11:Nat))]++X8.map D.int)=(qs++(((texts (M.vs.map .var++TA.map .con)).length+11:Nat):Int)::X8).map D.int from (aH (l₂:=_::X8)).symm]
  exact ⟨by rw[ae,ae,hq,bP,SO];rfl,by rw[<-hq,aY (ax _),dc];rfl⟩
end
noncomputable def MW(M:LM):Nat->Sol
 |0=>none
 |_+1=>M.so
noncomputable def MX(M:LM):Nat->Option D
 |k+2=>some M.sh
 |_=>none
section
variable{M:LM}{i:It}{n j:Nat}
noncomputable abbrev kI(M:LM)(n:Nat):Nat:=n - M.vs.length - M.ts.length
noncomputable abbrev abt(M:LM)(n:Nat):List It:=vF (M.vs.take n) (M.ts.take (n - M.vs.length)) (MW M (kI M n)) (MX M (kI M n)) []
theorem Ke:M.its.take n=abt M n:=by
 rw[uI,uI,af,af,<-iA,<-iA];refine congrArg (_++·) (congrArg (_++·) ?_);show zD (kI M n) _=_
 generalize kI M n=k
 cases k with
 |zero=>rfl
 |succ k=>cases k with
  |zero=>rfl
  |succ k=>exact oY (aw (aw (aZ k)))
theorem AX(h:ej M)(n:Nat):C' (Fin ((M.vs.take n).map Vr.D) (M.ts.take (n - M.vs.length)) (Bi (MW M (kI M n))) (MN (MX M (kI M n))) λU=>True) (M.its.take n) M0:=by
 rw[Ke];have q:=AS (V2:=[]) (T:=M.ts.take (n - M.vs.length)) (so:=MW M (kI M n)) (ou:=MX M (kI M n)) (ac (bG n M.vs) (ac h.many (by decide))) (ac (bG _ _) (ac h.tl (by decide)))
 rw[au] at q;exact q
noncomputable def Rr(M:LM)(n:Nat)(t:Tx):Prop:=Hh t ((M.vs.take n).map Vr.D) (M.ts.take (n - M.vs.length)) (Bi (MW M (kI M n))) (MN (MX M (kI M n)))
theorem OE(h:ej M)(ht:t.length<=lim)(r:Rt t t e (PZ (Kw (Fin ((M.vs.take n).map Vr.D) (M.ts.take (n - M.vs.length)) (Bi (MW M (kI M n))) (MN (MX M (kI M n))) λU=>True)) W))(hW:W M0):Rr M n t:=by
 have v4:=ac (bG n M.vs) (ac h.many (show 4<=10 by decide))
 rcases oQ n M.vs.length with hn|hn
 ·have e0:n - M.vs.length=0:=jC hn;unfold Rr
  rw[e0,(by show n - M.vs.length - M.ts.length=0;rw[e0,Nat.zero_sub]:kI M n=0)] at r⊢
  exact qK ht r hW v4 (λd hd=>absurd hd bu) ⟨_,.inl rfl⟩ uy
 ·unfold Rr;rw[oY hn] at*;refine qK ht r hW v4 (λd hd=>h.good d (cU hd)) ?_ ?_
  ·cases kI M n with
   |zero=>exact ⟨_,.inl rfl⟩
   |succ k=>exact AV h
  ·cases kI M n with
   |zero=>exact uy
   |succ k=>cases k with
    |zero=>exact uy
    |succ k=>exact h.sh
theorem sub_len:(texts (M.its.take n)).length<=M.text.length:=by
 simp only [nH];simp only [(by rw[<-jM,jF]:texts M.its=texts (M.its.take n)++texts (M.its.drop n)),ae]
 exact ak _ _
theorem zv(h:ej M):(∀i∈M.its.take n,i.Ok)/\∀i∈M.its.take n,Itm i.b=true:=⟨λi hi=>h.MU i (cU hi),λi hi=>h.ok.MR i (cU hi)⟩
theorem OF(h:ej M):Rr M n (texts (M.its.take n)):=by
 have r:=Rt.items (t:=texts (M.its.take n)) (zv h).1 (zv h).2 (Rt.fin (W:=Fin ((M.vs.take n).map Vr.D) (M.ts.take (n - M.vs.length)) (Bi (MW M (kI M n))) (MN (MX M (kI M n))) λU=>True) Kw.mk) (by rw[au];exact cu _)
 simp only [au] at r;exact OE h (ac sub_len h.p8) r (AX h n)
noncomputable def It.bt(i:It):Tx:=i.b.flatten
theorem R2:i.P.flatten=i.bt++tx ";\n":=by rw[It.Hg,show i.hd::tx " "::(i.B++k_)=i.b++k_ from rfl,bJ];rfl
theorem take1(hi:M.its[n]? =some i):M.its.take (n+1)=M.its.take n++[i]:=by rw[List.take_add_one,hi];rfl
theorem W8(h:ej M)(hi:M.its[n]? =some i):(texts (M.its.take n)).length+i.bt.length+2<=M.text.length/\i.bt.length<=518:=by
 have q:=sub_len (M:=M) (n:=n+1);rw[(by rw[take1 hi,jM,<-R2];exact congrArg (_++·) (by show (i.P++[]).flatten=_;rw[au]):texts (M.its.take (n+1))=texts (M.its.take n)++(i.bt++tx ";\n")),ae,ae,<-bo] at q
 exact ⟨q,Itm.len (h.ok.MR i (bM hi))⟩
theorem Rv(h:ej M)(hi:M.its[n]? =some i):Rr M (n+1) (texts (M.its.take n)++(i.bt++tx ";")):=by
 refine (W8 h hi).elim λl1 U=>?_
 have ht:(texts (M.its.take n)++(i.bt++tx ";")).length<=lim:=by
  simp only [ae,ae,<-bo];exact ac (bX _) (ac l1 h.p8)
 have wp:=AX h (n+1);rw[take1 hi] at wp
 generalize Dp:texts (M.its.take n)++(i.bt++tx ";")=t at*
 have r2:=(show Rq t [] (i.b++[tx ";"]) _ from Rq.head (t:=t) (w:=[]) (i:=i) (h.MU i (bM hi)) rfl (.tok (p:=tx ";") (d:=.s (tx ";")) (Z':=PZ (Kw (Fin ((M.vs.take (n+1)).map Vr.D) (M.ts.take (n+1 - M.vs.length)) (Bi (MW M (kI M (n+1)))) (MN (MX M (kI M (n+1)))) λU=>True)) _) (He (c:=59) rfl) nofun (λP F k S a z=>⟨rfl,oE a rfl,z⟩) (.nil (Rt.fin Kw.mk)))) _ (.plain (vZ (Es (Itm.in (h.ok.MR i (bM hi)))) (rfl))) (by rw[au,(show (i.b++[tx ";"]).flatten=i.bt++tx ";" from bJ),<-Dp];exact cG _ _)
 rw[au,(show (i.b++[tx ";"]).flatten=i.bt++tx ";" from bJ)] at r2
 have r3:=Rt.items (zv h).1 (zv h).2 r2 (by rw[Dp];exact cu _)
 simp only [Dp] at r3;refine OE h ht r3 ?_;unfold C' at wp⊢;rw[tM] at wp;exact wp
theorem C'.mono(f:∀{m},W m->W' m):∀{m},C' W its m->C' W' its m:=by
 induction its with
 |nil=>exact f
 |cons i its ih=>exact λh=>⟨h.1,λP=>ih (h.2 P)⟩
theorem abu(h:ej M)(hi:M.its[n]? =some i):59∉i.bt:=λq=>by
 obtain ⟨p,hp,hq⟩:=nK.mp q;have:=aJ.mp (vE.all (P:=λp=>!p.contains 59) (Itm.in (h.ok.MR i (bM hi)))) p hp
 rw[List.contains_iff_mem.mpr hq] at this;cases this
theorem abv(hc:iO lets c=true)(hv:c::x<:+t)(h5:59∉c::x)(hl:x.length<=600):Rt t (c::x) true λk S=>k.d.isQ=false/\(k.d.a==L8)=false/\Sf t.length 601 k S:=by
 refine cps λP9 k9=>?_
 obtain ⟨a,b,d,e⟩:=xE hc;have rs:(c::x).dropWhile (iO Hp)<:+x:=by rw[cM (of_map (g:=λU=>true) (of_decide_eq_true hc))];exact bW _
 obtain ⟨S,s1,s2⟩:=smT (ac rs.length_le hl) (rs.trans (dw hv)) (λq=>h5 (.tail _ (rs.subset q))) (aa rfl)
 refine k9 ?_;exact ⟨.cons hv (FN e) (.XW a b d hc) s1,AR _ _,λU=>rfl,rfl,rfl,.tok (j4 hv) rfl s2⟩
theorem W9(h:ej M)(hi:M.its[n]? =some i)(h0:0<j)(h1:j<=i.bt.length)(N:Nat):∃p,cl (N+13) 488 [tS (texts (M.its.take n)++i.bt.take j)] []= .exc p/\C_ (texts (M.its.take n)++i.bt.take j).length p:=by
 refine (W8 h hi).elim λl1 l2=>?_
 have ht:(texts (M.its.take n)++i.bt.take j).length<=lim:=by
  rw[ae];exact ac (aK (bG _ _) _) (ac (ac (ak _ 2) l1) h.p8)
 have p5:59∉i.bt.take j:=λq=>abu h hi (cU q)
 have pl:(i.bt.take j).length<=518:=ac (bG _ _) l2;have bg:∃c x,i.bt.take j=c::x/\iO lets c=true:=by
  cases j with
  |zero=>cases h0
  |succ j=>exact ⟨i.bt.headD 0,i.bt.tail.take j,by cases i<;>kernel_rfl,by cases i<;>kernel_rfl⟩
 generalize Dp:texts (M.its.take n)++i.bt.take j=t at*
 obtain ⟨c,x,ex,hc⟩:=bg;rw[ex] at Dp p5 pl;have r2:=(abv hc (t:=t) (by rw[<-Dp];exact cG _ _) p5 (ac (cg pl) (by decide))).mono (Z:=PZ (λo=>∃p,o= .exc p/\C_ t.length p) X7) λk S z=>⟨z.1,λM hM=>by
  obtain ⟨p,q1,q2⟩:=W5 hM z.2.2 (by decide)
  exact ⟨.N9 z.2.1 q1,p,rfl,q2⟩⟩
 have r3:=Rt.items (zv h).1 (zv h).2 r2 (by rw[Dp];exact cu _)
 rw[Dp] at r3;have wp:=C'.mono (W':=X7) (λh'=>by
  cases h' with|mk hl U=>exact ⟨by rw[af];exact ac (bG _ _) (ac h.many (by decide)),ac (bG _ _) (ac h.tl (by decide)),by rw[af,hl];exact ac (bG _ _) (ac h.tl (by decide))⟩) (AX h n)
 refine cps λP9 k9=>?_
 refine r3.el λm a U z=>(AU a z.1).elim λhf RQ=>(z.2 _ wp).el λd q=>?_
 obtain ⟨p,rfl,q⟩:=q;refine k9 ?_;exact ⟨p,V8 ht m hf (.inr ⟨_,_,RQ,d⟩),q⟩
end
theorem W_(n:Nat){t:Tx}{p k0:Int}(h:cl (n+13) 488 [tS t] []= .exc p)(ht:t.length<=lim)(hb:DP p k0 t.length=true):cl (n+14) 602 [tS t,tI k0] []= .ok (.d (.bool true)) []:=by
 have s:Ao 0 1 (zz [ze (xc 488 [xl 0])]).m (aQ TT (n+13)) [some (tS t),some (tI k0),none] []= .ok (.ret (.d (.bool true))) [none,none,none] []:=by
  show DQ 0 1 [some (tS t),some (tI k0),none] [] ((zz [ze (xc 488 [xl 0])]).m _ _ [])=_;rw[(ws [.V 0 h]:(zz [ze (xc 488 [xl 0])]).m (aQ TT (n+13)) [some (tS t),some (tI k0),none] []= .exc p [some (tS t),some (tI k0),none])];have v:Am 0 1 [some (tS t),some (tI k0),none] p=some true:=by
   show (if t.length<=lim then some (DP p k0 t.length) else none)=_
   rw[if_pos ht,hb]
  show (if ow [some (tS t),some (tI k0),none]=true/\3=3 then (Am 0 1 [some (tS t),some (tI k0),none] p).elim RS.stuck (λb=>.ok (.ret (.d (.bool b))) [none,none,none] []) else .stuck)=_
  rw[if_pos ⟨rfl,rfl⟩,v];rfl
 exact wc Z_ [.S 0 s]
noncomputable def OG(p:Tx):Bool:=b7 p.length 42&&(f1 p||(p==tx " "||p==tx "\n"))
noncomputable abbrev Rw(its salt:D)(r:Nat)(k:Int)(a b:Option V):Env:=[some (.d its),some (.d salt),some (.obj r),some (tI k),a,b]
section
variable{C:nj}{n:Nat}{σ:Store}{its salt:D}{a x:Option V}{p u v o:Tx}{k:Int}{fd ps qs:List Tx}
theorem Hi{b:Int}(h:b≠0):vMod (tI k) (tI b)=M.ret (tI (k.fmod b)):=if_pos h
theorem Rx:∃o∈r8,vItem (.d (.list (r8.map .str))) (tI (k.fmod 5))=ret (.str o):=by
 refine (eF (ju k (b:=5) (by decide))).elim λj e=>?_
 have h1:=lX k (b:=5) (by decide)
 rw[e] at h1⊢;exact ⟨_,iz.mp (cS (of_map (l:=d3 5) (f:=λj:Nat=>(r8.contains (r8.getD j []),vItem (.d (.list (r8.map .str))) (tI j))) (g:=λj=>(true,ret (.str (r8.getD j [])))) (jq.mpr (aP.mp h1)))).1,(cS (of_map (l:=d3 5) (f:=λj:Nat=>(r8.contains (r8.getD j []),vItem (.d (.list (r8.map .str))) (tI j))) (g:=λj=>(true,ret (.str (r8.getD j [])))) (jq.mpr (aP.mp h1)))).2⟩
theorem Sp.snoc(h:Sp ps u)(hf:J4 p o):Sp (ps++[p]) (u++o):=.XZ h ⟨o,[],(au o).symm,rfl,hf⟩
theorem Ry(h:Sp ps u)(hp:∀p∈ps,OG p=true):u.length<=ps.length*43:=by
 induction ps generalizing u with
 |nil=>cases h;exact aZ _
 |cons p ps ih=>
  obtain ⟨b,v,rfl,h2,hf⟩:=h;have l:=aa (aj.mp (hp p (.head _))).1;have lb:b.length<=43:=by
   unfold J4 at hf;cases e:f1 p<;>rw [e] at hf
   ·exact aa (of_map (f:=λb:Tx=>b7 b.length 43) (g:=λU=>true) hf)
   ·rcases hf with rfl|rfl
    ·exact bp l
    ·rw[ae];exact aw l
  rw[ae,bP,lj,bI];exact be (ih h2 λq hq=>hp q (.tail _ hq)) lb
theorem MY(hp:OG p=true)(hl:fd.length<=10000):∃o,J4 p o/\L588.m C (Rw its salt σ.length k a (some (tS p))) (σ++[jL fd])= .ok .next (Rw its salt σ.length (k+7) a (some (tS p))) (σ++[jL (fd++[o])]):=by
 refine (aj.mp hp).elim λh1 h2=>?_
 have ap {o:Tx}:mAppend (.obj σ.length) [tS o] (σ++[jL fd])= .ok (.d .none) (σ++[jL (fd++[o])]):=by
  simp only [jL,jL,aH];exact (AN σ (.str o) (g:=[jL fd]) (j:=0) rfl (by rw[af];exact ac hl (aa rfl))).h
 have ty:ww 1 (.obj σ.length) (M.ret (.obj σ.length)) (σ++[jL fd])= .ok (.obj σ.length) (σ++[jL fd]):=(ym σ (j:=0) rfl).h;cases e:f1 p with
 |false=>
  rw[e] at h2;obtain ⟨o,ho,hi⟩:=Rx (k:=k+7);refine ⟨o,by unfold J4;rw[e];exact ho,?_⟩
  rcases cw.mp (show (p==tx " "||p==tx "\n")=true from h2) with q|q<;>cases eq_of_beq q
  ·exact ws [.V 3 ty,.M 1 (Hi (k:=k+7) (b:=5) (by decide)),.M 0 hi,.V 0 (ap (o:=o))]
  ·exact ws [.V 5 ty,.M 1 (Hi (k:=k+7) (b:=5) (by decide)),.M 0 hi,.V 0 (ap (o:=o))]
 |true=>
  have q2:(p==tx "\n")=false:=beq_eq_false_iff_ne.mpr λq=>by rw[q] at e;cases e
  cases g:decide ((k+7).fmod 4>0) with
  |true=>
   refine ⟨p++[],by unfold J4;rw[e];exact .inl (au p),?_⟩
   exact ws [.B 2 (show (p==tx " ")=false from beq_eq_false_iff_ne.mpr λq=>by rw[q] at e;cases e),.B 1 q2,.V 0 ty,.M 0 (Hi (k:=k+7) (b:=4) (by decide)),.B 1 g,.m 0 (MA (t:=[]) (ac (aa h1) (aa rfl))),.V 0 (ap (o:=p++[]))]
  |false=>
   refine ⟨p++tx " ",by unfold J4;rw[e];exact .inr rfl,?_⟩
   exact ws [.B 2 (show (p==tx " ")=false from beq_eq_false_iff_ne.mpr λq=>by rw[q] at e;cases e),.B 1 q2,.V 0 ty,.M 0 (Hi (k:=k+7) (b:=4) (by decide)),.B 1 g,.m 0 (MA (t:=tx " ") (ac (aw (aa h1)) (aa rfl))),.V 0 (ap (o:=p++tx " "))]
theorem MZ(h:∀p∈ps,OG p=true)(hq:Sp qs fd.flatten)(hl:fd.length+ps.length<=10000):∃k' x' vr,jf (ps.map λp=>.d (.str p)) (mT (uv 5)) L588.m C (Rw its salt σ.length k a x) (σ++[jL fd])= .ok .next (Rw its salt σ.length k' a x') (σ++[jL vr])/\Sp (qs++ps) vr.flatten/\vr.length=fd.length+ps.length:=by
 induction ps generalizing k x fd qs with
 |nil=>exact ⟨k,x,fd,rfl,by rw[au];exact hq,rfl⟩
 |cons p ps ih=>
  refine cps λP9 k9=>?_
  obtain ⟨o,ho,t⟩:=MY (C:=C) (a:=a) (k:=k) (h p (.head _)) (ac (ak _ _) hl);have e:(fd++[o]).length+ps.length=fd.length+(p::ps).length:=by rw[ae,bo,bI [o].length];rfl
  obtain ⟨k',x',vr,r,s,l⟩:=ih (k:=k+7) (λq hq=>h q (.tail _ hq)) (by rw[bJ,dJ,nU,au];exact hq.snoc ho) (e▸hl)
  refine k9 ?_;refine ⟨k',x',vr,(kL rfl t).trans r,?_,l.trans e⟩;rw[ai] at s;exact s
theorem Kf{ls:List (List Tx)}(h:∀l∈ls,∀p∈l,OG p=true)(hq:Sp qs fd.flatten)(hl:fd.length+ls.flatten.length<=10000):∃k' a' x' vr,jf (ls.map λl=>.d (itD l)) (mT (uv 4)) L588a.m C (Rw its salt σ.length k a x) (σ++[jL fd])= .ok .next (Rw its salt σ.length k' a' x') (σ++[jL vr])/\Sp (qs++ls.flatten) vr.flatten:=by
 induction ls generalizing k a x fd qs with
 |nil=>exact ⟨k,a,x,fd,rfl,by rw[nU,au];exact hq⟩
 |cons l ls ih=>
  rw[dJ,ae,<-bo] at hl;refine cps λP9 k9=>?_
  obtain ⟨k1,x1,fd1,r1,s1,l1⟩:=MZ (C:=C) (its:=its) (salt:=salt) (σ:=σ) (a:=some (.d (itD l))) (k:=k) (x:=x) (h l (.head _)) hq (ac (ak _ _) hl);obtain ⟨k',a',x',vr,r,s⟩:=ih (k:=k1) (a:=some (.d (itD l))) (x:=x1) (λq hq=>h q (.tail _ hq)) s1 (l1▸hl)
  refine k9 ?_;rw[show (l.map λp=>V.d (.str p))=(l.map .str).map .d from (bR ..).symm] at r1
  refine ⟨k',a',x',vr,(kL (ρ₁:=Rw its salt σ.length k (some (.d (itD l))) x) rfl (ws [.S 0 r1])).trans r,?_⟩;rw[ai] at s;exact s
theorem abw(n:Nat){ls:List (List Tx)}{sa:Int}(h:∀l∈ls,∀p∈l,OG p=true)(hl:ls.flatten.length<=10000):∃g u,Sp ls.flatten u/\u.length<=lim/\cl (n+1) 588 [.d (.list (ls.map itD)),tI sa] σ= .ok (tS u) (σ++g):=by
 obtain ⟨k',a',x',fd,r,s⟩:=Kf (C:=aQ TT n) (its:=.list (ls.map itD)) (salt:=.int sa) (σ:=σ) (k:=sa) (a:=none) (x:=none) h (qs:=[]) (fd:=[]) rfl (by rw[dR,bA];exact hl)
 have l:=ac (Ry s λp hp=>by
  obtain ⟨l,h1,h2⟩:=nK.mp hp;exact h l h1 p h2) (ac (cV 43 hl) (show 430000<=lim from aa rfl))
 rw[show (ls.map λl=>V.d (itD l))=(ls.map itD).map .d from (bR ..).symm] at r
 exact ⟨[jL fd],fd.flatten,s,l,wc Z8 [.S 3 r,.V 1 (joL ((k_get (σ:=σ) (g:=[jL fd]) (j:=0)).trans (congrArg (λl=>some (O.list l)) bR)) l)]⟩
end
noncomputable def fd(cells:List Int)(k:Nat):O:=.dict [(tx "cells",.d (.list (cells.map .int))),(tx "at",tI k)]
structure Cl(cells:List Int):Prop where
 ne:cells≠[]
 le:cells.length<=100
inductive Dw(cells:List Int)(g:Store)(Q:D->Prop)(res:Res V):Prop
 |mk {d:D} {k:Nat}:res= .ok (.d d) (fd cells k::g)->Q d->Dw cells g Q res
theorem Dw.el{cells:List Int}{g:Store}{Q:D->Prop}{res:Res V}{b9:Prop}(h9:Dw cells g Q res)(k9:∀{d:D} {k:Nat},res= .ok (.d d) (fd cells k::g)->Q d->b9):b9:=Dw.rec k9 h9
inductive FT(lo hi:Int):D->Prop
 |mk {i:Int}:lo<=i->i<hi->FT lo hi (.int i)
inductive Row(m:Nat)(Q:D->Prop):D->Prop
 |mk {ys:List D}:ys.length=m->(∀y∈ys,Q y)->Row m Q (.list ys)
inductive Nums(m:Nat)(lo hi:Int):D->Prop
 |mk {l:List Int}:l.length=m->In lo hi l->Nums m lo hi (j5 l)
theorem Dw.int{cells:List Int}{g:Store}{lo hi:Int}{res:Res V}{b9:Prop}(h9:Dw cells g (FT lo hi) res)(k9:∀i k,res= .ok (.d (.int i)) (fd cells k::g)->lo<=i->i<hi->b9):b9:=
 h9.el λe q=>by cases q with|mk a b=>exact k9 _ _ e a b
theorem Dw.nums{cells:List Int}{g:Store}{m:Nat}{lo hi:Int}{res:Res V}{b9:Prop}(h9:Dw cells g (Nums m lo hi) res)(k9:∀l k,res= .ok (.d (j5 l)) (fd cells k::g)->l.length=m->In lo hi l->b9):b9:=
 h9.el λe q=>by cases q with|mk a b=>exact k9 _ _ e a b
theorem Dw.row{cells:List Int}{g:Store}{m:Nat}{Q:D->Prop}{res:Res V}{b9:Prop}(h9:Dw cells g (Row m Q) res)(k9:∀l k,res= .ok (.d (.list l)) (fd cells k::g)->l.length=m->(∀y∈l,Q y)->b9):b9:=
 h9.el λe q=>by cases q with|mk a b=>exact k9 _ _ e a b
section
variable{n N m:Nat}{σ g τ:Store}{C:nj}{ρ r:Env}{k:Nat}{top lo hi:Int}{cells:List Int}{o:Option V}{l ys:List D}{a:Int}{x:D}{Q:D->Prop}{i:XI}{e:XE}{cap:List (Option Nat)}{b:MC}
theorem oF(hm:n<1000)(h:l[n]? =some x):vItem (.d (.list l)) (tI n)=ret x:=((show∀i:Int,vItem (.d (.list l)) (.d (.int i))=M.opt ((zS l i).map V.d) from λU=>rfl) _).trans (by rw[AI hm h];rfl)
theorem M1(h:cells.length<=100)(h0:0<=a)(h1:a<cells.length):∃c:Int,vItem (.d (.list (cells.map .int))) (tI a)=ret (.int c):=by
 refine (eF h0).elim λj Io=>?_;subst Io
 have hj:j<cells.length:=aP.mp h1;exact ⟨cells[j],oF (bk hj (ac h (aa rfl))) (by rw[de,bb hj];rfl)⟩
theorem nJ(n:Nat)(h:Cl cells)(ht:0<top)(k:Nat)(g:Store):Dw cells g (FT 0 top) (cl (n+1) 516 [.obj 0,tI top] (fd cells k::g)):=by
 have hp:(0:Int)<cells.length:=aP.mpr (qV.mpr h.ne);refine (M1 h.le (ju (k:Int) hp) (lX k hp)).elim λc hc=>⟨(?_:_=Res.ok (tI ((c+13*(k:Int).fdiv cells.length).fmod top)) (fd cells (k+1)::g)),.mk (ju _ ht) (lX _ ht)⟩
 exact wc Z3 [.M 6 ((if_pos (by rw[af];exact ac h.le (aa rfl))).trans (by rw[af]):bLen [.d (.list (cells.map .int))]=M.ret (tI (cells.length:Int))),.M 0 (Hi (k:=k) (tB hp)),.M 0 hc,.M 0 ((if_pos (by rw[af];exact ac h.le (aa rfl))).trans (by rw[af]):bLen [.d (.list (cells.map .int))]=M.ret (tI (cells.length:Int))),.M 0 (if_pos ⟨hp,(aP.mpr (bi h.le (aa rfl)))⟩:vDiv (tI k) (tI (cells.length:Int))=M.ret (tI ((k:Int).fdiv (cells.length)))),.M 2 (Hi (k:=c+13*(k:Int).fdiv cells.length) (tB ht))]
theorem Xa(he:∀x∈l,∀k,Dw cells g Q (e.m C (some (.d x)::r) (fd cells k::g))):∀{o k},∃o' ys k',hH (mT (uv 0)) (bE (xR bTrue) e) C (l.map .d) (o::r) (fd cells k::g)= .ok (o'::r,ys) (fd cells k'::g)/\ys.length=l.length/\∀y∈ys,Q y:=by
 induction l with
 |nil=>exact λ{o k}=>⟨o,[],k,rfl,rfl,all_nil _⟩
 |cons x l ih=>
  intro o k;refine cps λP9 k9=>?_
  refine (he x (.head _) k).el @λy k1 h1 q1=>?_
  obtain ⟨o2,ys,k2,h2,l2,q2⟩:=ih (λy hy=>he y (.tail _ hy))
  refine k9 ?_;refine ⟨o2,y::ys,k2,?_,congrArg (·+1) l2,all_cons q1 q2⟩;have h4:bE (xR bTrue) e C (some (.d x)::r) (fd cells k::g)= .ok (some (.d x)::r,[y]) (fd cells k1::g):=by
   show (e.m C (some (.d x)::r) _).bind _=_;rw[h1];rfl
  show (bE (xR bTrue) e C (some (.d x)::r) _).bind _=_;rw[h4];show (hH _ _ C (l.map .d) (some (.d x)::r) _).bind _=_;rw[h2];rfl
theorem X9(hm:i.m C ρ (fd cells k::g)= .ok (l.map .d) (fd cells n::g))(hc:Ho cap ρ=o::r)(he:∀x∈l,∀k,Dw cells g Q (e.m C (some (.d x)::r) (fd cells k::g)))(hl:l.length<=lim):Dw cells g (Row l.length Q) (s6 i.m (mT (uv 0)) (bE (xR bTrue) e) cap C ρ (fd cells k::g)):=by
 refine (Xa he (o:=o) (k:=n)).elim λo' z0=>z0.elim λys z1=>z1.elim λk' z2=>z2.elim λh z3=>z3.elim λl1 q=>.mk (k:=k') ?_ (.mk l1 q)
 show (i.m C ρ _).bind _=_;rw[hm];show ri (hH _ _ C _ (Ho cap ρ) _)=_;rw[hc,h];exact if_pos (l1▸hl)
theorem xA2{α:Type}{e:XE}{v:V}{f:List V->M α}(h:e.m C ρ τ= .ok v σ):(xB (xA [e]) λv=>xR λU U=>f v).m C ρ τ=f [v] σ:=by
 show Res.bind (Res.bind (e.m C ρ τ) _) _=_;rw[h];rfl
theorem Xb{e:XE}(h:e.m C ρ τ= .ok (tI m) σ)(hm:m<=100):(iR [e]).m C ρ τ= .ok (((ew 0 m).map λk:Nat=>D.int k).map .d) σ:=(xA2 h).trans ((Oh σ (bi hm (aa rfl))).trans (by rw[bR];rfl))
theorem RA(h:l.length<=lim):bTuple [.d (.list l)]=ret (.tup l):=if_pos h
theorem abx(n:Nat)(h:Cl cells)(ht:0<top)(hm:m<=100)(lo:Int)(k:Nat)(g:Store):Dw cells g (Nums m lo (lo+top)) (cl (n+2) 521 [.obj 0,tI m,tI lo,tI top] (fd cells k::g)):=by
 refine cps λP9 k9=>?_
 have c:=X9 (C:=aQ TT (n+1)) (g:=g) (k:=k) (Q:=FT lo (lo+top)) (i:=iR [xl 1]) (e:=x2 vAdd (xl 2) (xc 516 [xl 1,xl 3])) (cap:=[none,some 0,some 2,some 3]) (o:=none) (r:=[some (.obj 0),some (tI lo),some (tI top)]) (ρ:=[some (.obj 0),some (tI m),some (tI lo),some (tI top)])
  (Xb rfl hm) rfl (λx U k=>by
   refine (nJ n h ht k g).int λi k' e h0 h1=>?_
   exact ⟨(we [.V 0 e]:_=Res.ok (tI (lo+i)) (fd cells k'::g)),.mk (lY h0) (qW h1 lo)⟩) (by rw[af,cX];exact ac hm (aa rfl))
 rw[af,cX] at c;refine c.row λys k' e l1 q=>?_
 have il:∃l:List Int,ys=l.map .int/\In lo (lo+top) l:=by
  clear e l1
  induction ys with
  |nil=>exact ⟨[],rfl,xv⟩
  |cons y ys ih=>
   obtain ⟨l,rfl,h⟩:=ih λz hz=>q z (.tail _ hz)
   cases q y (.head _) with|@mk i h0 h1=>exact ⟨i::l,rfl,oB h0 h1 h⟩
 obtain ⟨l,rfl,hi⟩:=il;rw[af] at l1;refine k9 ?_;refine .mk (k:=k') ?_ (.mk l1 hi);exact wc Z4 [.V 0 e,.M 0 (RA (l:=l.map .int) (by rw[af,l1];exact ac hm (aa rfl)))]
end
noncomputable def Lt.code:Lt->Nat
 | .x=>120| .b=>98| .X=>88| .B=>66| .n=>110| .N=>78| .P=>80| .R=>82| .s=>115| .m=>109| .t=>116
inductive Ag(many:Int)(n:Nat)(c:Lt):D->Prop
 |mk {as:List D}:p6 many n as c->Ag many n c (.tup as)
theorem Dw.ag{cells:List Int}{g:Store}{many:Int}{n:Nat}{c:Lt}{res:Res V}{b9:Prop}(h9:Dw cells g (Ag many n c) res)(k9:∀as k,res= .ok (.d (.tup as)) (fd cells k::g)->p6 many n as c->b9):b9:=
 h9.el λe q=>by cases q with|mk a=>exact k9 _ _ e a
section
variable{n N k:Nat}{g:Store}{many top:Int}{cells:List Int}{Q:D->Prop}{res:Res V}{i:Int}
theorem jN(h:0<=i):∃m:Nat,i=m:=eF h
theorem v0{l:List Tx}(h0:0<=i)(h1:i<l.length)(hl:l.length<=100):∃s∈l,vItem (.d (.list (l.map .str))) (tI i)=ret (.str s):=by
 obtain ⟨j,rfl⟩:=jN h0;have hj:j<l.length:=aP.mp h1;exact ⟨l[j],jQ hj,oF (bk hj (ac hl (aa rfl))) (by rw[de,bb hj];rfl)⟩
theorem aby(N:Nat)(h:Cl cells)(hm:0<many)(hn:n<=2)(k:Nat)(g:Store)(c:Lt):Dw cells g (Ag many n c) (cl (N+3) 526 [.obj 0,tS [c.code],tI many,tI n] (fd cells k::g)):=by
 have dr {top:Int} (ht:0<top) k:=nJ (N+1) h ht k g;have nu (m:Nat) hm {top:Int} (ht:0<top) lo k:=abx (m:=m) N h ht hm lo k g
 have n1:n<=100:=ac hn (aa rfl);cases c with
 |x=>
  refine (dr hm k).int λi k1 e h0 h1=>?_
  refine .mk (k:=k1) ?_ ⟨i,rfl,h0,h1⟩;exact wc w8 [.V 4 e]
 |b=>
  refine (dr (top:=2) (by decide) k).int λi k1 e h0 h1=>?_
  refine .mk (k:=k1) ?_ ⟨i,rfl,h0,h1⟩;exact wc w8 [.V 6 e]
 |X=>
  refine (nu n n1 hm 0 k).nums λl k1 e h0 h1=>?_
  rw[oJ] at h1;refine .mk (k:=k1) ?_ ⟨l,rfl,h0,h1⟩;exact wc w8 [.V 6 e]
 |B=>
  refine cps λP9 k9=>?_
  refine (dr (top:=3) (by decide) k).int λi k1 e h0 h1=>?_
  obtain ⟨m,rfl⟩:=jN h0;have KD:m<=2:=fD (aP.mp h1);refine (nu m (ac KD (aa rfl)) (top:=2) (by decide) 0 k1).nums λl k2 e2 h0 h1=>?_
  refine k9 ?_;refine .mk (k:=k2) ?_ ⟨l,rfl,h0▸KD,h1⟩;exact wc w8 [.V 8 e,.V 0 e2]
 |n=>
  refine (dr (top:=9) (by decide) k).int λi k1 e h0 h1=>?_
  refine .mk (k:=k1) ?_ ⟨_,rfl,kj h0 4,qj h1 4⟩;exact wc w8 [.V 10 e]
 |N=>
  refine (nu n n1 (top:=9) (by decide) (-4) k).nums λl k1 e h0 h1=>?_
  refine .mk (k:=k1) ?_ ⟨l,rfl,h0,h1⟩;exact wc w8 [.V 15 e]
 |P=>
  refine (nu n n1 (top:=9) (by decide) 0 k).nums λl k1 e h0 h1=>?_
  refine .mk (k:=k1) ?_ ⟨l,rfl,h0,h1⟩;exact wc w8 [.V 16 e]
 |R=>
  refine cps λP9 k9=>?_
  refine (dr (top:=3) (by decide) k).int λi k1 e h0 h1=>?_
  obtain ⟨m,rfl⟩:=jN h0;refine k9 ?_;have KD:m<=2:=fD (aP.mp h1);have cc:=X9 (C:=aQ TT (N+2)) (cells:=cells) (g:=g) (k:=k) (n:=k1) (i:=iR [xc 516 [xl 0,xi 3]]) (e:=xc 521 [xl 1,xl 2,x1 vNeg (xi 4),xi 9]) (cap:=[none,some 0,some 3]) (o:=none) (r:=[some (.obj 0),some (tI n)]) (ρ:=[some (.obj 0),some (tS [82]),some (tI many),some (tI n),none,none])
   (Xb (we [.V 0 e]) (ac KD (aa rfl))) rfl (λx U k=>by
    refine (nu n n1 (top:=9) (by decide) (-4) k).el @λd k' e q=>.mk (k:=k') ?_ q
    exact we [.V 1 e]) (by rw[af,cX];exact ac KD (aa rfl))
  rw[af,cX] at cc;refine cps λP9 k9=>?_
  refine cc.row λys k2 e2 l1 q=>?_
  have il:∃ls:List (List Int),ys=ls.map j5/\∀l∈ls,l.length=n/\In (-4) 5 l:=by
   clear e2 l1
   induction ys with
   |nil=>exact ⟨[],rfl,nofun⟩
   |cons y ys ih=>
    obtain ⟨ls,rfl,h⟩:=ih λz hz=>q z (.tail _ hz)
    cases q y (.head _) with|@mk l h0 h1=>exact ⟨l::ls,rfl,λz hz=>by
     cases hz with
     |head=>exact ⟨h0,h1⟩
     |tail U hz=>exact h z hz⟩
  obtain ⟨ls,rfl,hi⟩:=il;refine k9 ?_;rw[af] at l1;refine .mk (k:=k2) ?_ ⟨ls,rfl,l1▸KD,hi⟩;exact wc w8 [.V 16 e2,.M 0 (RA (l:=ls.map j5) (by rw[af,l1];exact ac KD (aa rfl)))]
 |s=>
  refine cps λP9 k9=>?_
  refine (dr (top:=2) (by decide) k).int λi k1 e h0 h1=>?_
  obtain ⟨s,hs,hi⟩:=v0 (l:=[tx "bounds",tx "values"]) h0 h1 (aa rfl);refine k9 ?_;refine .mk (k:=k1) ?_ ⟨s,rfl,by
   cases hs with
   |head=>exact .inl rfl
   |tail U hs=>exact .inr (aA.mp hs)⟩
  exact wc w8 [.V 19 e,.M 0 hi]
 |m=>
  refine cps λP9 k9=>?_
  refine (nu 2 (aa rfl) (top:=3) (by decide) 0 k).nums λr1 k1 e1 a0 a1=>?_
  refine (nu 2 (aa rfl) (top:=3) (by decide) 0 k1).nums λr2 k2 e2 b0 b1=>?_
  refine (dr (top:=2) (by decide) k2).int λi k3 e3 h0 h1=>?_
  refine (dr (top:=2) (by decide) k3).int λj k4 e4 j0 j1=>?_
  obtain ⟨m,rfl⟩:=jN j0;have KD:m<=1:=fD (aP.mp j1);refine (nu m (ac KD (aa rfl)) (top:=2) (by decide) 1 k4).nums λf k5 e5 c0 c1=>?_
  refine k9 ?_;refine .mk (k:=k5) ?_ ⟨r1,r2,f,1+i,rfl,a0,b0,a1,b1,lY h0,qW h1 1,c0▸KD,c1⟩;exact wc w8 [.V 20 e1,.V 0 e2,.V 1 e3,.V 1 e4,.V 0 e5]
 |t=>
  refine cps λP9 k9=>?_
  refine (dr (top:=3) (by decide) k).int λi k1 e1 h0 h1=>?_
  refine (nu n n1 (top:=9) (by decide) (-4) k1).nums λl k2 e2 a0 a1=>?_
  refine (nu n n1 hm 0 k2).nums λr k3 e3 b0 b1=>?_
  refine k9 ?_;rw[oJ] at b1;refine cps λP9 k9=>?_
  refine (dr (top:=9) (by decide) k3).int λj k4 e4 j0 j1=>?_
  obtain ⟨s,hs,hi⟩:=v0 (l:=[nLe,nEq,nNe]) h0 h1 (aa rfl);refine k9 ?_;refine .mk (k:=k4) ?_ ⟨s,l,r,_,rfl,by
   cases hs with
   |head=>exact .inl rfl
   |tail U hs=>cases hs with
    |head=>exact .inr (.inl rfl)
    |tail U hs=>exact .inr (.inr (aA.mp hs)),a0,b0,a1,b1,kj j0 4,qj j1 4⟩
  exact wc w8 [.V 21 e1,.M 0 hi,.V 1 e2,.V 0 e3,.V 0 e4]
end
section
variable{n N k:Nat}{g:Store}{many top:Int}{cells:List Int}{i:Int}{form name:Tx}{a b c d e:Option V}{pre:List D}
noncomputable abbrev tdE(many:Int)(name form:Tx)(n:Nat)(pre:List D)(x:Option V):Env:=[some (.obj 0),some (tI many),some (tS name),some (tS form),some (tI n),some (.d (.tup pre)),x]
theorem abA(N:Nat)(h:Cl cells)(hm:0<many)(hn:n<=2)(g:Store){cs:Tx}(hc:∀c∈cs,(eY c).code=c):∀{k pre x},pre.length+5*cs.length<=1000->
  ∃as k' x',jf (cs.map λc=>tS [c]) (mT (uv 6)) L533.m (aQ TT (N+3)) (tdE many name form n pre x) (fd cells k::g)= .ok .next (tdE many name form n (pre++as) x') (fd cells k'::g)/\ef many n (cs.map eY) as:=by
 induction cs with
 |nil=>exact λ{k pre x} _=>⟨[],k,x,by rw[au];rfl,rfl⟩
 |cons c cs ih=>
  intro k pre x hl;refine (aby N h hm hn k g (eY c)).ag λas k1 e q=>?_
  rw[hc c (.head _)] at e;have l5:as.length<=5:=by
   have:=jK (ls:=[eY c]) ⟨as,[],(au as).symm,q,rfl⟩;rw[this]
   cases eY c<;>decide
  obtain ⟨bs,k',x',r,q2⟩:=ih (λd hd=>hc d (.tail _ hd)) (k:=k1) (pre:=pre++as) (x:=some (tS [c])) (by rw[ae,bo,bI as.length];exact ac (aK (aK l5 _) _) hl)
  refine ⟨as++bs,k',x',?_,as,bs,rfl,q,q2⟩;rw[<-ai];refine (kL (ρ₁:=tdE many name form n pre (some (tS [c]))) rfl ?_).trans r;exact ws [.V 0 e,.m 0 (yx (ac (aK (ac l5 (cK 5 (5*cs.length))) _) (ac hl (aa rfl))))]
theorem abB(N:Nat)(h:Cl cells)(hm:2<=many)(k:Nat)(g:Store):Dw cells g (LT many) (cl (N+4) 533 [.obj 0,tI many] (fd cells k::g)):=by
 refine cps λP9 k9=>?_
 refine (nJ (N+2) h (top:=31) (by decide) k g).int λi k1 e1 i0 i1=>?_
 refine (nJ (N+2) h (top:=2) (by decide) k1 g).int λj k2 e2 j0 j1=>?_
 obtain ⟨i,rfl⟩:=jN i0;obtain ⟨j,rfl⟩:=jN j0;refine k9 ?_;have hi:i<fY.length:=aP.mp i1;have hj:j+1<=2:=aP.mp j1
 have it:vItem (.d (.list (fY.map λp=>.tup [.str p.1,.str p.2]))) (tI i)=ret (.tup [.str fY[i].1,.str fY[i].2]):=oF (bk hi (aa rfl)) (by rw[de,bb hi];rfl)
 have hp:=jQ hi
 generalize fY[i]=p at*
 refine cps λP9 k9=>?_
 obtain ⟨name,form⟩:=p;have q:=cS (of_map (f:=λp:Tx×Tx=>(p.2.all λc=>(eY c).code==c,b7 p.2.length 6)) (g:=λU=>(true,true)) hp)
 obtain ⟨as,k',x',r,q3⟩:=abA N h (bL (by decide) hm) hj (name:=name) (form:=form) (cs:=form) g (λc hc=>eq_of_beq (aJ.mp q.1 c hc)) (k:=k2) (pre:=[.str name]) (x:=none) (ac (aK (ci 5 (aa q.2)) 1) (aa rfl))
 refine k9 ?_;refine .mk (k:=k') ?_ ⟨(name,form),hp,j+1,⟨aw (aZ _),hj⟩,as,q3,rfl⟩;exact wc Z5 [.V 3 e1,.M 0 it,.V 0 e2,.M 0 (congrArg (λi=>M.ret (tI i)) (lh 1 j)),.S 3 r]
theorem CT(h0:0<=i)(h1:i<7):∃s∈r6,vItem (.d (.list (r6.map .str))) (tI i)=ret (.str s):=v0 h0 h1 (aa rfl)
theorem abC(N:Nat)(h:Cl cells)(hm:2<=many)(k:Nat)(g:Store):Dw cells g (oC many) (cl (N+2) 540 [.obj 0,tI many] (fd cells k::g)):=by
 refine cps λP9 k9=>?_
 refine (nJ N h (top:=5) (by decide) k g).int λw k1 e1 w0 w1=>?_
 refine (nJ N h (bL (by decide) hm) k1 g).int λx k2 e2 x0 x1=>?_
 have hx:AH many (.int x)=true:=Ec x0 x1;obtain ⟨w,rfl⟩:=jN w0
 cases w with
 |zero=>
  refine (nJ N h (top:=7) (by decide) k2 g).int λi k3 e3 i0 i1=>?_
  obtain ⟨s,hs,hi⟩:=CT i0 i1;refine k9 ?_;refine .mk (k:=k3) ?_ (.text hs);exact wc Je [.V 0 e1,.V 0 e2,.V 5 e3,.M 0 hi]
 |succ w=>
  cases w with
  |zero=>
   exact k9 (.mk (k:=k2) (wc Je [.V 0 e1,.V 0 e2]) (.int hx))
  |succ w=>
   cases w with
   |zero=>
    exact k9 (.mk (k:=k2) (wc Je [.V 0 e1,.V 0 e2]) (.bool hx))
   |succ w=>
    cases w with
    |zero=>
     refine (nJ N h (top:=3) (by decide) k2 g).int λi k3 e3 i0 i1=>?_
     obtain ⟨j,rfl⟩:=jN i0;refine k9 ?_;refine .mk (d:=.tup [.str (tx "list"),.tup ([D.tup [.str (tx "int"),.int x],.tup [.str (tx "text"),.str (tx "a")]].take j)]) (k:=k3) ?_ (.list hx);exact wc Je [.V 0 e1,.V 0 e2,.V 13 e3,.M 0 (of_map (f:=λj:Nat=>mJ (.d (.tup [.tup [.str (tx "int"),.int x],.tup [.str (tx "text"),.str (tx "a")]])) (.d .none) (tI j)) (g:=λj=>ret (.tup ([D.tup [.str (tx "int"),.int x],.tup [.str (tx "text"),.str (tx "a")]].take j))) (jq.mpr (aP.mp i1)))]
    |succ w=>
     cases w with
     |zero=>
      exact k9 (.mk (k:=k2) (wc Je [.V 0 e1,.V 0 e2]) (.R0 hx))
     |succ w=>
      exact absurd (aP.mp w1) (gJ.mpr (cK 5 w))
end
section
variable{n N k m:Nat}{g:Store}{many top:Int}{cells:List Int}{i:Int}{x:Option V}{W:List D}
noncomputable abbrev M2:List (List Rg):=[[(1,3)],[],[(0,0),(2,5)],[(-7, -2)],[(4,4)],[(-3, -3),(0,1)]]
noncomputable abbrev M3(a b c d e f:Option V):Env:=[some (.obj 0),a,b,c,d,e,f]
noncomputable abbrev sW(cells:List Int)(k:Nat)(W:List D):Store:=[fd cells k,cx W]
theorem M4(h0:0<=i)(h1:i<6):∃rs∈ij,vItem (.d (.list (M2.map mW))) (tI i)=ret (mW rs):=by
 obtain ⟨j,rfl⟩:=jN h0;have hj:j<M2.length:=aP.mp h1;exact ⟨M2[j],iz.mp (aJ.mp (by kernel_rfl:M2.all ij.contains=true) _ (jQ hj)),oF (bk hj (by decide)) (by rw[de,bb hj];rfl)⟩
noncomputable def okV(v:Vr):Prop:=v.1∈r6/\v.2∈ij
theorem abD(N:Nat)(h:Cl cells){xs:List V}:∀{k W x},W.length+xs.length<=100->∃V:List Vr,(∀v∈V,okV v)/\V.length=xs.length/\∃k' x',jf xs (mT (uv 2)) L545.m (aQ TT (N+1)) (M3 (some (.obj 1)) x none none none none) (sW cells k W)= .ok .next (M3 (some (.obj 1)) x' none none none none) (sW cells k' (W++V.map Vr.D)):=by
 induction xs with
 |nil=>exact λ{k W x} _=>⟨[],nofun,rfl,k,x,by rw[tF,au];rfl⟩
 |cons y xs ih=>
  intro k W x hl;refine cps λP9 k9=>?_
  refine (nJ N h (top:=7) (by decide) k [cx W]).int λi k1 e1 i0 i1=>?_
  refine (nJ N h (top:=6) (by decide) k1 [cx W]).int λj k2 e2 j0 j1=>?_
  obtain ⟨s,hs,n1⟩:=CT i0 i1;obtain ⟨rs,hr,n2⟩:=M4 j0 j1;obtain ⟨V,q1,q2,k',x',r⟩:=ih (k:=k2) (W:=W++[Vr.D (s,rs)]) (x:=some y) (by rw[ae,bo,bI [_].length];exact hl)
  refine k9 ?_;refine ⟨(s,rs)::V,λv hv=>?_,congrArg (·+1) q2,k',x',?_⟩
  ·cases hv with
   |head=>exact ⟨hs,hr⟩
   |tail U hv=>exact q1 v hv
  ·simp only [ai] at r;refine (kL rfl ?_).trans r;exact ws [.v 0 (ym [fd cells k] (g:=[cx W]) (j:=0) rfl),.V 1 e1,.M 0 n1,.V 1 e2,.M 0 n2,.v 1 (AN [fd cells k2] (Vr.D (s,rs)) (g:=[cx W]) (j:=0) rfl (ac (ac (ak _ _) hl) (aa rfl)))]
theorem abE(N:Nat)(h:Cl cells)(k:Nat):∃M k',ej M/\1<=M.ts.length/\cl (N+6) 545 [.obj 0] [fd cells k]= .ok (.d M.D) [fd cells k',.dead]:=by
 refine cps λP9 k9=>?_
 refine (nJ (N+4) h (top:=2) (by decide) k [cx [Oz.D,OA.D]]).int λi k1 e1 i0 i1=>?_
 obtain ⟨i,rfl⟩:=jN i0;have hi:i+1<=2:=aP.mp i1;have p1 {i:Nat}:vAdd (tI 1) (tI i)=M.ret (tI (i+1:Nat)):=congrArg (λi=>M.ret (tI i)) (lh 1 i)
 obtain ⟨V,hV,lV,k2,y2,r1⟩:=abD (N+4) h (xs:=((ew 0 (i+1)).map λk:Nat=>D.int k).map .d) (k:=k1) (W:=[Oz.D,OA.D]) (x:=none) (by rw[af,af,cX];exact ac (aK hi 2) (aa rfl))
 simp only [af,af,cX] at lV;have z1:(zf (iR [x2 vAdd (xi 1) (xc 516 [xl 0,xi 2])]) (uv 2) L545).m (aQ TT (N+5)) (M3 (some (.obj 1)) none none none none none) (sW cells k [Oz.D,OA.D])= .ok .next (M3 (some (.obj 1)) y2 none none none none) (sW cells k2 ([Oz.D,OA.D]++V.map Vr.D)):=by
  show RS.nk ((iR _).m _ _ _) _ _=_;rw[Xb (m:=i+1) (we [.V 0 e1,.M 0 (p1 (i:=i))]) (ac hi (by decide))]
  exact r1
 have lW:((Oz::OA::V).map Vr.D).length=V.length+2:=by rw[af];rfl
 have hm:(2:Int)<=(V.length+2:Nat):=c_.mpr (cK 2 _)
 generalize hW:(Oz::OA::V).map Vr.D=W at*
 refine (nJ (N+4) h (top:=2) (by decide) k2 [cx W]).int λj k3 e3 j0 j1=>?_
 obtain ⟨j,rfl⟩:=jN j0;have c1:=X9 (C:=aQ TT (N+5)) (cells:=cells) (g:=[cx W]) (k:=k2) (n:=k3) (l:=(ew 0 (j+1)).map λk:Nat=>.int k) (i:=iR [x2 vAdd (xi 1) (xc 516 [xl 0,xi 2])]) (e:=xc 533 [xl 1,xl 2]) (cap:=[none,some 0,some 3]) (o:=none) (r:=[some (.obj 0),some (tI (V.length+2:Nat))]) (ρ:=M3 (some (.obj 1)) y2 (some (tI (V.length+2:Nat))) none none none)
  (Xb (we [.V 0 e3,.M 0 (p1 (i:=j))]) (ac (aP.mp j1:j+1<=2) (by decide))) rfl (λx U k=>by
   exact (abB (N+1) h hm k [cx W]).el @λd k' e q=>.mk (d:=d) (k:=k') (we [.V 0 e]) q) (by rw[af,cX];exact ac (aP.mp j1:j+1<=2) (aa rfl))
 rw[af,cX] at c1;refine c1.row λts k4 e4 tl q4=>?_
 refine (nJ (N+4) h (top:=3) (by decide) k4 [cx W]).int λw k5 e5 w0 w1=>?_
 obtain ⟨gk,Xc,ik⟩:=v0 (l:=[tx "satisfy",tx "minimize",tx "maximize"]) w0 w1 (aa rfl);have s1:(zz ((Qy.drop 0).take 5)).m (aQ TT (N+5)) (j9 [.obj 0] 7) [fd cells k]= .ok .next (M3 (some (.obj 1)) y2 (some (tI (V.length+2:Nat))) (some (.d (.list ts))) (some (tS gk)) none) (sW cells k5 W):=by
  exact ws [.S 7 z1,.V 0 (lW▸(JT [fd cells k2] (g:=[cx W]) (j:=0) (l:=W) rfl (by rw[lW];exact ac (aB (lV▸hi) 2) (aa rfl))).h:bLen [.obj 1] (sW cells k2 W)= .ok (tI (V.length+2:Nat)) (sW cells k2 W)),.V 0 e4,.V 1 e5,.M 0 ik]
 have s2:∃gv k6,(zz ((Qy.drop 5).take 1)).m (aQ TT (N+5)) (M3 (some (.obj 1)) y2 (some (tI (V.length+2:Nat))) (some (.d (.list ts))) (some (tS gk)) none) (sW cells k5 W)= .ok .next (M3 (some (.obj 1)) y2 (some (tI (V.length+2:Nat))) (some (.d (.list ts))) (some (tS gk)) (some (.d (.tup [.str gk,CO gv])))) (sW cells k6 W)/\
   (gk=tx "satisfy"/\gv=none\/(gk=tx "minimize"\/gk=tx "maximize")/\∃i:Int,gv=some i/\0<=i/\i<(V.length+2:Nat)):=by
  cases Xc with
  |head=>exact ⟨none,k5,ws [],.inl ⟨rfl,rfl⟩⟩
  |tail U Xc=>
   refine (nJ (N+4) h (bL (by decide) hm) k5 [cx W]).int λz k6 e6 z0 z1=>?_
   cases Xc with
   |head=>exact ⟨some z,k6,ws [.V 2 e6],.inr ⟨.inl rfl,z,rfl,z0,z1⟩⟩
   |tail U Xc=>cases aA.mp Xc;exact ⟨some z,k6,ws [.V 2 e6],.inr ⟨.inr rfl,z,rfl,z0,z1⟩⟩
 obtain ⟨gv,k6,s2,hg⟩:=s2;refine (nJ (N+4) h (top:=3) (by decide) k6 [.dead]).int λs k7 e7 s0 s1'=>?_
 obtain ⟨s,rfl⟩:=jN s0;have hs:s<=2:=fD (aP.mp s1');have c2:=X9 (C:=aQ TT (N+5)) (cells:=cells) (g:=[.dead]) (k:=k6) (n:=k7) (Q:=oC (V.length+2:Nat)) (i:=iR [xc 516 [xl 0,xi 3]]) (e:=xc 540 [xl 1,xl 2]) (cap:=[none,some 0,some 3]) (o:=none) (r:=[some (.obj 0),some (tI (V.length+2:Nat))]) (ρ:=M3 (some (.obj 1)) y2 (some (tI (V.length+2:Nat))) (some (.d (.list ts))) (some (tS gk)) (some (.d (.tup [.str gk,CO gv]))))
  (Xb (we [.V 0 e7]) (ac hs (by decide))) rfl (λx U k=>by
   exact (abC (N+3) h hm k [.dead]).el @λd k' e q=>.mk (d:=d) (k:=k') (we [.V 0 e]) q) (by rw[af,cX];exact ac hs (aa rfl))
 rw[af,cX] at c2;refine c2.row λsh k8 e8 sl q8=>?_
 refine k9 ⟨⟨Oz::OA::V,ts,gk,gv,.tup sh⟩,k8,⟨⟨V,rfl,lV▸hi,hV⟩,q4,tl▸(aP.mp j1),hg,⟨sh,rfl,sl▸hs,q8⟩⟩,tl▸aw (aZ _),Wz.call Z6 (.go 5 s1 (.go 1 s2 ?_))⟩;exact wf [.V 0 (show BX (.obj 1) (sW cells k6 W)= .ok (.d (.list W)) [fd cells k6,.dead] from tm (i:=1) rfl),.V 0 e8,.M 0 (RA (sl▸ac hs (aa rfl)))]
end
inductive oG(many:Int):D->D->Prop
 |mk {name form:Tx} {n:Nat} {as:List D} {d:D}:(name,form)∈fY->1<=n/\n<=2->ef many n (form.map eY) as->yy many name (form.map eY) as d->oG many (dO name as) d
noncomputable def R3:Tx->Bool
 |[]=>true
 |c::cs=>rm (eY c)||(Ed (eY c)&&R3 cs)
section
variable{n N k m:Nat}{g:Store}{many:Int}{cells:List Int}{l r as asp bs:List D}{x d:D}{name form cs:Tx}{C:nj}{σ:Store}{w:Option V}{j c:Nat}
theorem RB(h:m<=l.length)(hl:l.length<=lim):mJ (.d (.tup l)) (.d .none) (tI m)=ret (.tup (l.take m)):=(if_pos hl).trans (congrArg (λl=>ret (.tup l)) (show (l.drop 0).take (clipAt l.length m - 0)=_ by rw[tb,gh h];rfl))
noncomputable abbrev FU(name:Tx)(as:List D)(many:Int)(form:Tx)(w:Option V):Env:=[some (.obj 0),some (.d (dO name as)),some (tI many),some (tI 4),some (tS form),w]
section
variable(h:asp.length+r.length<=100)
theorem r9{m:Nat}(h:m<=200):m<=lim:=ac h (aa rfl)
include h
theorem CU:(D.str name::(asp++x::r)).length<=102:=by rw[bP,ae];exact aw (aw h)
theorem abF:mJ (.d (dO name (asp++x::r))) (.d .none) (tI (asp.length+1:Nat))=ret (dO name asp):=(RB (l:=.str name::(asp++x::r)) (by rw[bP,ae];exact aw (ak _ _)) (r9 (ac (CU h) (by decide)))).trans (by show ret (.tup (.str name::(asp++x::r).take asp.length))=_;rw[xZ])
theorem abG:mJ (.d (dO name (asp++x::r))) (tI (asp.length+2:Nat)) (.d .none)=ret (.tup r):=(El (l:=.str name::(asp++x::r)) (n:=asp.length+2) (by rw[bP,ae];exact aw (aw (ak _ _))) (r9 (ac (CU h) (by decide)))).h.trans (by
 show ret (.tup ((asp++x::r).drop (asp.length+1)))=_;rw[jX,show asp.length+1=(asp++[x]).length by rw[ae];rfl,lS])
theorem Xd{y:D}:vAdd (.d (dO name asp)) (.d (.tup [y]))=ret (dO name (asp++[y]))/\vAdd (.d (dO name (asp++[y]))) (.d (.tup r))=ret (dO name (asp++y::r)):=⟨(yx (l:=.str name::asp) (r:=[y]) (r9 (ac (aw (aw (ac (ak _ _) h))) (by decide)))).h,(yx (l:=.str name::(asp++[y])) (r:=r) (r9 (by rw[bP,ae,bD,bD asp.length];exact ac (aw (aw h)) (by decide)))).h.trans (by rw[jX asp y r];rfl)⟩
end
theorem CV(hj:j<1000)(h:form[j]? =some c):vItem (tS form) (tI j)=ret (.str [c]):=b5.trans (by rw[AI hj h];rfl)
theorem Xe{c:Lt}(hs:rm c=false)(hj:j<1000)(h:form[j]? =some c.code):L609.m C (FU name as many form (some (tI j))) σ= .ok .next (FU name as many form (some (tI j))) σ:=ws [.M 0 (CV hj h),.T 0 (by cases c<;>first|exact absurd hs (by decide)|kernel_rfl:vIn (tS [c.code]) (tS (tx "xb"))=M.ret false),.M 1 (CV hj h),.T 0 (by cases c<;>first|exact absurd hs (by decide)|kernel_rfl:vEq (tS [c.code]) (tS (tx "X"))=M.ret false)]
theorem Xf{c:Lt}(hs:rm c=true)(ha:p6 many n [x] c)(hn:1<=n/\n<=2)(hl:asp.length+r.length<=100)(h:form[asp.length]? =some c.code):L609.m C (FU name (asp++x::r) many form (some (tI asp.length))) σ= .ok (.ret (.d (dO name (asp++FG many x::r)))) (FU name (asp++x::r) many form (some (tI asp.length))) σ:=by
 have c1:=abF (name:=name) (x:=x) hl;have c2:=abG (name:=name) (x:=x) hl
 have c3:=λ{y:D}=>Xd (name:=name) (y:=y) hl
 have one:(∃i,x= .int i)->vIn (tS [c.code]) (tS (tx "xb"))=M.ret true->L609.m C (FU name (asp++x::r) many form (some (tI asp.length))) σ= .ok (.ret (.d (dO name (asp++FG many x::r)))) (FU name (asp++x::r) many form (some (tI asp.length))) σ:=λ⟨i,e⟩ t1=>by
  subst e;exact ws [.M 0 (CV (bi (ac (ak _ _) hl) (by decide)) h),.T 0 t1,.M 2 c1,.M 1 ((c3 (y:=.int many)).1),.M 1 c2,.M 0 ((c3 (y:=.int many)).2)]
 cases c with
 |x=>obtain ⟨i,e, -⟩:=ha;exact one ⟨i,c6 e|>.1⟩ (rfl)
 |b=>obtain ⟨i,e, -⟩:=ha;exact one ⟨i,c6 e|>.1⟩ (rfl)
 |X=>
  obtain ⟨l,e,h1, -⟩:=ha;cases e;rw[show FG many (j5 l)= .tup ([.int many]++(l.map D.int).drop 1) by rw[List.drop_one];rfl]
  exact ws [.M 0 (CV (bi (ac (ak _ _) hl) (by decide)) h),.T 0 (rfl:vIn (tS [Lt.X.code]) (tS (tx "xb"))=M.ret false),.M 1 (CV (bi (ac (ak _ _) hl) (by decide)) h),.M 3 c1,.M 2 (eJ (l:=.str name::(asp++j5 l::r)) (bi (aw (ac (ak _ _) hl)) (by decide)) (by show (asp++j5 l::r)[asp.length]? =_;rw[aY (ax _),dc];rfl):vItem (.d (dO name (asp++j5 l::r))) (tI (asp.length+1:Nat))=ret (j5 l)),.M 0 ((El (l:=l.map D.int) (n:=1) ((by rw[af,h1]:(l.map D.int).length=n)▸hn.1) (r9 ((by rw[af,h1]:(l.map D.int).length=n)▸ac hn.2 (by decide)))).h),.M 0 ((yx (r9 (ac (aK (ac (g0▸jO _ _) ((by rw[af,h1]:(l.map D.int).length=n)▸hn.2)) 1) (by decide)))).h:vAdd (.d (.tup [.int many])) (.d (.tup ((l.map D.int).drop 1)))=ret (.tup ([.int many]++(l.map D.int).drop 1))),.M 1 ((c3 (y:=.tup ([.int many]++(l.map D.int).drop 1))).1),.M 1 c2,.M 0 ((c3 (y:=.tup ([.int many]++(l.map D.int).drop 1))).2)]
 |_=>cases hs
theorem abH(hn:1<=n/\n<=2)(hm:2<=many){cs:Tx}:∀{pre:Tx} {asp as':List D} {w},form=pre++cs->asp.length=pre.length->(∀c∈cs,(eY c).code=c)->R3 cs=true->ef many n (cs.map eY) as'->asp.length+as'.length<=100->
  (∃ρ bs,jf ((ew pre.length cs.length).map λk:Nat=>tI k) (mT (uv 5)) L609.m C (FU name (asp++as') many form w) σ= .ok (.ret (.d (dO name (asp++bs)))) ρ σ/\uZ many (cs.map eY) as' bs)\/
  (∃w',jf ((ew pre.length cs.length).map λk:Nat=>tI k) (mT (uv 5)) L609.m C (FU name (asp++as') many form w) σ= .ok .next (FU name (asp++as') many form w') σ/\cs.all (λc=>!rm (eY c))=true):=by
 induction cs with
 |nil=>exact λ{pre asp as' w} _ _ _ _ _ _=>.inr ⟨w,rfl,rfl⟩
 |cons c cs ih=>
  intro pre asp as' w e1 e2 hc ho ha hl;refine cps λP9 k9=>?_
  obtain ⟨a,b,rfl,h1,h2⟩:=ha;have o1:Ed (eY c)=true:=by
   cases hs:rm (eY c) with
   |true=>cases e:eY c<;>rw [e] at hs<;>first|rfl|cases hs
   |false=>rw [R3,hs] at ho;exact (aj.mp ho).1
  obtain ⟨x,rfl⟩:=h1.one o1;refine k9 ?_;rw[bP,nT,cD];cases hs:rm (eY c) with
  |true=>
   have t:=Xf (name:=name) (form:=form) (C:=C) (σ:=σ) hs h1 hn (asp:=asp) (r:=b) (bp (bK hl)) (by rw[e1,e2,aY (ax _),dc,hc c (.head _)];rfl)
   rw[e2] at t;exact .inl ⟨_,_,Wc (ρ₁:=FU name (asp++([x]++b)) many form (some (tI pre.length))) rfl t,.soft hs⟩
  |false=>
   rw[R3,hs] at ho;have t:=Xe (name:=name) (as:=asp++[x]++b) (many:=many) (form:=form) (C:=C) (σ:=σ) hs (bi (ac (ak _ _) (bK hl:asp.length+b.length<=99)) (aa rfl)) (by rw[e1,e2,aY (ax _),dc,hc c (.head _)];rfl)
   rw[e2] at t;have g:=ih (pre:=pre++[c]) (w:=some (tI pre.length)) (by rw[ai];exact e1) (by rw[(by rw[ae];rfl:(pre++[c]).length=pre.length+1),(by rw[ae];rfl:(asp++[x]).length=asp.length+1),e2]) (λd hd=>hc d (.tail _ hd)) (aj.mp ho).2 h2 (by rw[(by rw[ae];rfl:(asp++[x]).length=asp.length+1),bD];exact aw (bK hl))
   rw[(by rw[ae];rfl:(pre++[c]).length=pre.length+1)] at g
   rw[show asp++([x]++b)=asp++[x]++b from (ai ..).symm,(kL (t:=mT (uv 5)) (b:=L609.m) (C:=C) (ρ₁:=FU name (asp++[x]++b) many form (some (tI pre.length))) rfl t)]
   rcases g with ⟨ρ,bs,g1,g2⟩|⟨w',g1,g2⟩
   ·exact .inl ⟨ρ,x::bs,by rw[g1,ai];rfl,.Mt o1 g2⟩
   ·exact .inr ⟨w',g1,by show (!rm (eY c)&&_)=true;rw[hs,g2];rfl⟩
end
section
variable{n N k m:Nat}{g:Store}{many:Int}{cells:List Int}{l r as bs:List D}{x d:D}{name form:Tx}
theorem M5{y:D}(hl:(y::l).length<=lim)(h0:l≠[]):mJ (.d (.tup (y::l))) (.d .none) (tI (-1))=ret (.tup (y::l.dropLast)):=(if_pos hl).trans (congrArg (λl=>ret (.tup l)) (by
 have e:clipAt (y::l).length (-1)=l.length:=by
  have q:clipAt (l.length+1) (-1)=clipAt (l.length+1) (l.length:Int):=by
   unfold clipAt;rw[if_pos (by decide),if_neg (eK.mpr (bw _)),show (-1:Int)+((l.length+1:Nat):Int)=l.length from (lh _ _).trans (Int.add_neg_cancel_right (l.length:Int) 1:)]
  exact q.trans (tb.trans (gh (bX _)))
 show ((y::l).drop 0).take (clipAt (y::l).length (-1) - 0)=_;rw[e];exact (jD (l:=y::l)).symm.trans (List.dropLast_cons_of_ne_nil h0)))
noncomputable abbrev fmD:V:=.dict (fY.map λp=>(p.1,.str p.2))
theorem OH(h:(name,form)∈fY):vItem fmD (tS name)=ret (.str form):=of_map (f:=λp:Tx×Tx=>vItem fmD (tS p.1)) (g:=λp=>ret (.str p.2)) h
theorem RC{P:Prop}(hp:(name,form)∈fY)(h:ef many n (form.map eY) as)(f:(∀c∈form,(eY c).code=c)->R3 form=true->as≠[]->as.length<=10->(form.all (λc=>!rm (eY c))=true->form.map eY=[.B,.B])->form.length<=10->P):P:=by
 have q:=of_map (f:=λp:Tx×Tx=>(p.2.all λc=>(eY c).code==c,R3 p.2,b7 1 ((p.2.map eY).flatMap expand).length,b7 ((p.2.map eY).flatMap expand).length 10,!p.2.all (λc=>!rm (eY c))||p.2==tx "BB",b7 p.2.length 10)) (g:=λU=>(true,true,true,true,true,true)) hp
 injection q with q1 q
 injection q with q2 q
 injection q with q3 q
 injection q with q4 q
 injection q with q5 q6
 have el:=jK h;refine f (λc hc=>eq_of_beq (aJ.mp q1 c hc)) q2 (λe=>?_) (el▸aa q4) (λhs=>?_) (aa q6)
 ·rw[e] at el;rw[<-el] at q3;cases q3
 ·rw[hs] at q5;cases eq_of_beq (show (form==tx "BB")=true from q5);rfl
theorem abI(N:Nat)(h:Cl cells)(hm:2<=many)(hd:LT many d)(k:Nat)(g:Store):Dw cells g (oG many d) (cl (N+3) 609 [.obj 0,.d d,tI many] (fd cells k::g)):=by
 refine cps λP9 k9=>?_
 obtain ⟨⟨name,form⟩,hp,n,hn,as,ha,rfl⟩:=hd;refine RC hp ha λf1 f2 f3 f4 f5 f6=>?_
 have mk {d:D} {k':Nat} (e:cl (N+3) 609 [.obj 0,.d (dO name as),tI many] (fd cells k::g)= .ok (.d d) (fd cells k'::g)) (b:yy many name (form.map eY) as d):Dw cells g (oG many (dO name as)) (cl (N+3) 609 [.obj 0,.d (dO name as),tI many] (fd cells k::g)):=.mk e (.mk hp hn ha b);have lt:(D.str name::as).length<=11:=aw f4
 have l0 {m:Nat} (h:m<=100):m<=lim:=r9 (ac h (by decide))
 cases as with
 |nil=>exact absurd rfl f3
 |cons x r=>
 have c4:=M5 (y:=.str name) (l:=x::r) (l0 (ac lt (by decide))) nofun
 have t1 {a:List D} (ha:a.length<=2) {b:List D} (hb:b.length<=11):vAdd (.d (.tup a)) (.d (.tup b))=ret (.tup (a++b)):=(yx (l0 (ac (be ha hb) (by decide)))).h
 refine (nJ (N+1) h (top:=5) (by decide) k g).int λw k1 e1 w0 w1=>?_
 obtain ⟨w,rfl⟩:=jN w0;cases w with
 |zero=>
  refine k9 ?_;refine mk (k':=k1) ?_ .w0;exact wc GY [.V 0 e1,.M 3 ((El (l:=.str name::x::r) (n:=1) (aw (aZ _)) (l0 (ac lt (by decide)))).h:mJ (.d (dO name (x::r))) (tI 1) (.d .none)=ret (.tup (x::r))),.M 0 (t1 (a:=[.str (tx "nosuch")]) (by decide) (b:=x::r) (bp f4))]
 |succ w=>cases w with
  |zero=>
   refine k9 ?_;refine mk (k':=k1) ?_ .w1;exact wc GY [.V 0 e1,.M 5 c4]
  |succ w=>cases w with
   |zero=>
    refine k9 ?_;refine mk (k':=k1) ?_ .w2;exact wc GY [.V 0 e1,.M 7 ((yx (l:=.str name::x::r) (r:=[.int 0]) (l0 (ac (aB lt 1) (by decide)))).h:vAdd (.d (dO name (x::r))) (.d (.tup [.int 0]))=ret (dO name (x::r++[.int 0])))]
   |succ w=>cases w with
    |zero=>
     refine k9 ?_;refine mk (k':=k1) ?_ .w3;exact wc GY [.V 0 e1,.M 8 (RB (l:=.str name::x::r) (m:=1) (aw (aZ _)) (l0 (ac lt (by decide))):mJ (.d (dO name (x::r))) (.d .none) (tI 1)=ret (.tup [.str name])),.M 2 ((El (l:=.str name::x::r) (n:=2) (aw (aw (aZ _))) (l0 (ac lt (by decide)))).h:mJ (.d (dO name (x::r))) (tI 2) (.d .none)=ret (.tup r)),.M 0 (t1 (a:=[.str name,.bool true]) (ax 2) (b:=r) (ac (bX _) (ac f4 (by decide)):r.length<=11))]
    |succ w=>cases w with
     |succ w=>exact absurd (aP.mp w1) (gJ.mpr (cK 5 w))
     |zero=>
      have zz {R:RS} (e:jf ((ew 0 form.length).map λk:Nat=>tI k) (mT (uv 5)) L609.m (aQ TT (N+2)) (FU name (x::r) many form none) (fd cells k1::g)=R):(zf (iR [xf bLen [xl 4]]) (uv 5) L609).m (aQ TT (N+2)) (FU name (x::r) many form none) (fd cells k1::g)=R:=by
       show RS.nk ((iR _).m _ _ _) _ _=_;rw[iR1 (n:=form.length) (show (xf bLen [xl 4]).m (aQ TT (N+2)) (FU name (x::r) many form none) (fd cells k1::g)= .ok (tI form.length) (fd cells k1::g) from we [.M 0 ((b8 (l0 (ac f6 (by decide)))).h:bLen [tS form]=M.ret (tI form.length))]) (bi f6 (by decide))]
       exact e
      rcases (abH (C:=aQ TT (N+2)) (σ:=fd cells k1::g) (name:=name) (many:=many) (form:=form) hn hm (cs:=form) (pre:=[]) (asp:=[]) (as':=x::r) (w:=none) rfl rfl f1 f2 ha (by rw[dR,bA];exact ac f4 (by decide))) with ⟨ρ,bs,z1,z2⟩|⟨w',z1,z2⟩
      ·have z1:=zz z1;refine k9 ?_
       refine mk (k':=k1) ?_ (.pl z2);exact wc GY [.V 0 e1,.M 10 ((Og name (x::r)).h:vItem (.d (dO name (x::r))) (tI 0)=ret (.str name)),.M 0 (OH hp),.S 0 z1]
      ·have z1:=zz z1;refine k9 ?_
       refine mk (k':=k1) ?_ (.el (f5 z2));exact wc GY [.V 0 e1,.M 10 ((Og name (x::r)).h:vItem (.d (dO name (x::r))) (tI 0)=ret (.str name)),.M 0 (OH hp),.S 0 z1,.M 0 (RB (l:=.str name::x::r) (m:=1) (aw (aZ _)) (l0 (ac lt (by decide))):mJ (.d (dO name (x::r))) (.d .none) (tI 1)=ret (.tup [.str name])),.M 3 ((El (l:=.str name::x::r) (n:=2) (aw (aw (aZ _))) (l0 (ac lt (by decide)))).h:mJ (.d (dO name (x::r))) (tI 2) (.d .none)=ret (.tup r)),.M 0 (t1 (a:=[.str name,.tup [.int many]]) (ax 2) (b:=r) (ac (bX _) (ac f4 (by decide)):r.length<=11))]
end
section
variable{d x gl sh:Internal.D}{M:LM}{V:List Vr}
theorem xK(h:∀x∈l,pL x<=n):kU l<=n:=by
 induction l with
 |nil=>exact aZ _
 |cons x l ih=>exact gM.mpr ⟨h x (.head _),ih λy hy=>h y (.tail _ hy)⟩
theorem OI(h:∀x,Q x->pL x<=n)(hd:FJ Q d):pL d<=n+1:=by
 cases d with
 |tup l=>exact aw (xK λx hx=>h x (hd.2.2 x hx))
 |list=>cases hd
 |_=>exact aZ _
theorem Kg(k:Nat):∀{d},Gd k d->pL d<=k+1:=by
 induction k with
 |zero=>exact λh=>OI (Q:=λU=>False) nofun h
 |succ k ih=>exact λh=>OI (Q:=Gd k) (λx h=>ih h) h
noncomputable def OJ(d:Internal.D)(n:Nat):Prop:=Rb d n/\pL d<=8
theorem OK(hV:∀v∈V,v.1∈lJ/\v.2∈ij)(vl:V.length<=4)(hT:∀d∈T,Wr d)(tl:T.length<=2)(hg:OJ gl 200)(hs:OJ sh 30000):∃X,bRepr [.d (.list (J' (V.map Vr.D) T gl sh))]=ret (.str X):=by
 have rv:=(Rs.all (n:=107) (l:=V.map Vr.D) λx hx=>by
  obtain ⟨v,hv,rfl⟩:=br.mp hx;exact Rk (hV v hv).1 (hV v hv).2).list.mono (k:=500) (by rw[af];exact ac (aB (cV _ vl) 3) (by decide))
 have d1:kU (V.map Vr.D)<=8:=xK λx hx=>by
  obtain ⟨v,hv,rfl⟩:=br.mp hx;have:=aa (of_map (f:=λrs=>b7 (pL (mW rs)) 2) (g:=λU=>true) (hV v hv).2)
  exact aw (gM.mpr ⟨aZ _,gM.mpr ⟨ac this (by decide),aZ _⟩⟩)
 exact ⟨_,if_pos ⟨⟨((Rs.cons rv (Rs.cons ((Rs.all (n:=30000) (l:=T) λx hx=>J6 (hT x hx)).list.mono (k:=60100) (ac (aB (cV _ tl) 3) (by decide))) (Rs.cons hg.1 (Rs.cons hs.1 .nil)))).list).1,ac (aW qR) (ac ((Rs.cons rv (Rs.cons ((Rs.all (n:=30000) (l:=T) λx hx=>J6 (hT x hx)).list.mono (k:=60100) (ac (aB (cV _ tl) 3) (by decide))) (Rs.cons hg.1 (Rs.cons hs.1 .nil)))).list).2 (aa rfl))⟩,(ac (gM.mpr ⟨aw d1,gM.mpr ⟨aw (xK λx hx=>ac (Kg 4 (hT x hx).1) (by decide):kU T<=8),gM.mpr ⟨bp hg.2,gM.mpr ⟨bp hs.2,aZ _⟩⟩⟩⟩) (show 9<=30 by decide):kU (J' (V.map Vr.D) T gl sh)<=30)⟩⟩
theorem Et(hs:s∈[tx "satisfy",tx "minimize",tx "maximize"])(hx:Rb x 20)(h0:pL x=0):OJ (.tup [.str s,x]) 200:=⟨(Rs.cons (MM hs) (Rs.cons hx .nil)).tup.mono (by decide),aw (gM.mpr ⟨aZ _,gM.mpr ⟨h0▸aZ _,aZ _⟩⟩)⟩
theorem FV:Rb .none 20:=⟨rfl,by decide+kernel⟩
theorem FW(h:ej M):∀k,OJ (Bi (MW M k)) 200:=λk=>by
 cases k with
 |zero=>exact Et (.head _) FV rfl
 |succ k=>
  show OJ (.tup [.str M.gk,CO M.gv]) 200;rcases h.goal with ⟨e,e2⟩|⟨e,i,e2,h0,h1⟩
  ·rw[e,e2];exact Et (.head _) FV rfl
  ·rw[e2];exact Et (e.elim (λe=>e▸ .tail _ (.head _)) λe=>e▸ .tail _ (.tail _ (.head _))) ((WV (decide_eq_true ⟨aX (by decide) h0,aX (aX (c9 h1) h.m9) (by decide)⟩)).mono (by decide)) rfl
theorem OL(h:ej M):∀k,OJ (MN (MX M k)) 30000:=λk=>by
 cases k with
 |zero=>exact (⟨Rs.nil.tup.mono (by decide),by decide⟩:OJ (.tup []) 30000)
 |succ k=>cases k with
  |zero=>exact (⟨Rs.nil.tup.mono (by decide),by decide⟩:OJ (.tup []) 30000)
  |succ k=>exact ⟨J6 h.ok.sh,ac (Kg 4 h.ok.sh.1) (by decide)⟩
end
noncomputable def ends(a:Nat):List It->List Nat
 |[]=>[]
 |i::is=>(a+i.bt.length+1)::(a+i.bt.length+2)::ends (a+i.bt.length+2) is
inductive Lies(its:List It)(a c:Nat):Prop
 |cut {j r:Nat} {i:It}:its[j]? =some i->c=a+(texts (its.take j)).length+r->0<r->r<=i.bt.length->(ends a its).any (·==c)=false->Lies its a c
 |fin {j e:Nat} {i:It}:its[j]? =some i->e<=1->c=a+(texts (its.take j)).length+i.bt.length+1+e->(ends a its).any (·==c)=true->(ends a its).findIdx (·==c)=2*j+e->Lies its a c
section
theorem RE:(texts [i]).length=i.bt.length+2:=by
 show (i.P++[]).flatten.length=_;simp only [au,R2,ae];rfl
theorem r_:(texts (i::is)).length=i.bt.length+2+(texts is).length:=by rw[show i::is=[i]++is from rfl,jM,ae,RE]
theorem M6:∀{a},∀e∈ends a its,a<e:=by
 induction its with
 |nil=>exact λe h=>absurd h bu
 |cons i is ih=>
  intro a e h;cases h with
  |head=>exact c8 (ak _ _)
  |tail U h=>cases h with
   |head=>exact c8 (bp (ak _ _))
   |tail U h=>exact eQ (c8 (bp (ak _ _))) (ih e h)
theorem M7(h:c<=a):(ends a its).any (·==c)=false:=List.any_eq_false.mpr λe he=>by
 intro q;exact absurd (M6 e he) (gJ.mpr (eq_of_beq q▸h))
theorem nb{x y:Nat}(h:x≠y):(x==y)=false:=beq_eq_false_iff_ne.mpr h
theorem lies:∀{a},a<c->c<=a+(texts its).length->Lies its a c:=by
 induction its with
 |nil=>exact λh0 h1=>absurd h1 (Nat.not_le.mpr h0)
 |cons i is ih=>
  intro a h0 h1;rw[r_] at h1;rcases oM (a+i.bt.length) c with q|q
  ·rcases sx q with q|q
   ·exact .fin (j:=0) rfl (aZ _) q.symm (by show ((a+i.bt.length+1==c)||_)=true;rw[show a+i.bt.length+1=c from q,beq_self_eq_true];rfl) (by rw[ends,dM,show a+i.bt.length+1=c from q,beq_self_eq_true];rfl)
   have n1:(a+i.bt.length+1==c)=false:=nb (bT q);rcases sx q with q|q
   ·exact .fin (j:=0) rfl (ax _) q.symm (by show ((a+i.bt.length+1==c)||((a+i.bt.length+2==c)||_))=true;rw[n1,show a+i.bt.length+2=c from q,beq_self_eq_true];rfl) (by rw[ends,dM,n1,dM,show a+i.bt.length+2=c from q,beq_self_eq_true];rfl)
   have any {b:Bool} (h:(ends (a+i.bt.length+2) is).any (·==c)=b):(ends a (i::is)).any (·==c)=b:=by
    show ((a+i.bt.length+1==c)||((a+i.bt.length+2==c)||_))=b
    simp only [n1,(nb (bT q))];exact h
   have tk {j:Nat}:(texts ((i::is).take (j+1))).length=i.bt.length+2+(texts (is.take j)).length:=r_;have ea {T:Nat}:a+i.bt.length+2+T=a+(i.bt.length+2+T):=bo a (i.bt.length+2) T
   cases ih (a:=a+i.bt.length+2) q (ea▸h1) with
   |@cut j r i' e1 e2 e3 e4 e5=>exact .cut e1 (by rw[tk,<-ea];exact e2) e3 e4 (any e5)
   |@fin j e i' e1 e2 e3 e4 e5=>exact .fin e1 e2 (by rw[tk,<-ea];exact e3) (any e4) (by
     simp only [ends,dM,n1,dM,(nb (bT q))];show List.findIdx _ _+1+1=2*j+2+e;rw[e5,bD (2*j) 2 e])
  ·refine .cut (j:=0) rfl (fL (cf h0)).symm (Nat.sub_pos_of_lt h0) (Nat.sub_le_of_le_add (bI .. ▸q)) ?_;show ((a+i.bt.length+1==c)||((a+i.bt.length+2==c)||_))=false
   simp only [nb (fy (c8 q)),nb (fy (c8 (bp q)))];exact M7 (ac q (ak _ 2))
end
noncomputable abbrev OM(l:List Nat):Internal.D:=.list (l.map λn:Nat=>.int n)
section
variable{a b c n k:Nat}{M:LM}{E E':List Nat}
theorem abJ(h:E.length+E'.length<=lim):vAdd (.d (OM E)) (.d (OM E'))=ret (OM (E++E')):=(if_pos (by rw[af,af];exact h)).trans (by rw[OM,aH])
noncomputable abbrev aE(M:LM)(c:Nat)(E:List Nat)(a:Nat)(x y z w:Option Internal.V):Env:=[some (tS M.text),some (.d (.list (M.items.map itD))),some (.d M.D),some (tI c),some (.d (.list (M.vs.map Vr.D))),some (.d (.list M.ts)),some (.d (.tup [.str M.gk,CO M.gv])),some (.d M.sh),some (.d (OM E)),some (tI a),x,y,z,w]
theorem M8(hi:∀i∈its,i.P.flatten.length<=lim):∀{a E x},E.length+2*its.length<=1000->∃x',jf ((its.map λi=>itD i.P).map .d) (mT (uv 10)) L616.m C (aE M c E a x none none none) σ= .ok .next (aE M c (E++ends a its) (a+(texts its).length) x' none none none) σ:=by
 induction its with
 |nil=>exact λ{a E x} _=>⟨x,by rw[show E++ends a []=E from au _];rfl⟩
 |cons i its ih=>
  intro a E x hl;have hl:E.length+2+2*its.length<=1000:=ac (aW (by rw[bo,bI 2];rfl)) hl
  obtain ⟨x',r⟩:=ih (λj hj=>hi j (.tail _ hj)) (a:=a+i.bt.length+2) (E:=E++[a+i.bt.length+1,a+i.bt.length+2]) (x:=some (.d (itD i.P))) (by rw[ae];exact hl)
  rw[(by rw[r_];exact bo a (i.bt.length+2) _:a+i.bt.length+2+(texts its).length=a+(texts (i::its)).length),ai] at r
  refine ⟨x',(kL (ρ₁:=aE M c E a (some (.d (itD i.P))) none none none) rfl ?_).trans r⟩;exact ws [.M 1 (jn (ts:=i.P) (hi i (.head _))),.M 0 ((if_pos (hi i (.head _))).trans (by rw[(by rw[R2,ae];rfl:i.P.flatten.length=i.bt.length+2)]):bLen [tS i.P.flatten]=Internal.M.ret (tI (i.bt.length+2:Nat))),.M 1 (congrArg (λi=>Internal.M.ret (tI i)) (dy ((a+i.bt.length+1:Nat):Int) 1):vSub (tI (a+(i.bt.length+2):Nat)) (tI 1)=Internal.M.ret (tI (a+i.bt.length+1:Nat))),.M 1 (abJ (E:=E) (E':=[a+i.bt.length+1,a+i.bt.length+2]) (ac (ac (ak _ _) hl) (aa rfl)))]
theorem M9(h:t.length<=lim):mJ (tS t) (.d .none) (tI c)=ret (.str (t.take c)):=(if_pos h).trans (congrArg (λl=>ret (.str l)) (show (t.drop 0).take (clipAt t.length c - 0)=_ by rw[tb];exact (gp ..).symm))
theorem M_(h:l.length<=lim):mJ (.d (.list l)) (.d .none) (tI c)=ret (.list (l.take c)):=(if_pos h).trans (congrArg (λl=>ret (.list l)) (show (l.drop 0).take (clipAt l.length c - 0)=_ by rw[tb];exact (gp ..).symm))
theorem Xg{e:Nat}:((e:Int)==(c:Int))=(e==c):=by rw[gd,beq_iff_eq,beq_iff_eq];exact Int.ofNat_inj
theorem Xh:kW (E.map λn:Nat=>.int n) (.int c)=E.any (·==c):=by
 induction E with
 |nil=>rfl
 |cons e E ih=>exact congr (congrArg or (show ((e:Int)==(c:Int))=(e==c) from Xg)) ih
theorem Kh:vNotIn (tI c) (.d (OM E))=Internal.M.ret (!E.any (·==c)):=by rw[<-Xh];rfl
theorem RF(h:E.length<=lim)(ha:E.any (·==c)=true):mIndex (.d (OM E)) [tI c]=ret (.int (E.findIdx (·==c):Nat)):=by
 show (if (E.map λn:Nat=>Internal.D.int n).length<=lim/\pL (.int c)<=30/\kW (E.map λn:Nat=>.int n) (.int c)=true then ret (.int ((E.map λn:Nat=>Internal.D.int n).findIdx λy=>t7 y (.int c):Nat)) else Internal.M.no)=_
 rw[if_pos ⟨by rw[af];exact h,aZ _,by rw[Xh];exact ha⟩]
 refine congrArg (λn:Nat=>ret (.int n)) ?_
 clear h ha
 induction E with
 |nil=>rfl
 |cons e E ih=>rw [cD,dM,dM,ih,show t7 (.int (e:Int)) (.int c)=(e==c) from Xg]
end
section
variable{a b c n k W idx:Nat}{M:LM}{j:Nat}
theorem CW(h:l.length<=lim):bLen [.d (.list l)]=Internal.M.ret (tI l.length):=if_pos h
theorem abK:(if (W:Int) - k>0 then (W:Int) - k else 0)=((W - k:Nat):Int):=by
 rcases oM k W with h|h
 ·rw[if_pos (Int.sub_pos_of_lt (aP.mpr h)),Int.ofNat_sub (cf h)]
 ·rw[if_neg (eK.mpr (Int.sub_nonpos_of_le (c_.mpr h))),jC h];rfl
theorem Ki:decide ((W:Int) - a - b>(j:Int))=decide (j<W - a - b):=decide_eq_decide.mpr ⟨λh=>qk (qk (aP.mp (lZ (lZ h)))),λh=>l6 (l6 (aP.mpr (ql (ql h))))⟩
theorem bm:bMax [tI 0,tI ((W:Int) - k)]=ret (.int (W - k:Nat)):=congrArg (λi=>ret (.int i)) abK
theorem Xi(n:Nat)(h:ej M)(hE:E.length<=1000)(ha:E.any (·==c)=true)(hi:E.findIdx (·==c)=idx)(hw:(idx+1)/2=W)(r:Rr M W (M.text.take c)):∃τ,Wz LS 3 (aQ TT (n+14)) (aE M c E b x none none none) [] (.ok (.d (.bool true)) τ):=by
 have f1:=Kh (E:=E) (c:=c);rw[ha] at f1
 have f2:=RF (ac hE (aa rfl)) ha;rw[hi] at f2
 have s2:(zz ((LS.drop 3).take 4)).m (aQ TT (n+14)) (aE M c E b x none none none) []= .ok .next (aE M c E b x (some (tI W)) (some (tI (W - M.vs.length - M.ts.length))) (some (.d (.list [.list ((M.vs.map Vr.D).take W),.list (M.ts.take (W - M.vs.length))])))) []:=by
  exact ws [.T 0 f1,.M 2 f2,.M 1 (congrArg (λi=>Internal.M.ret (tI i)) ((Int.ofNat_fdiv (idx+1) 2).symm.trans (congrArg _ hw))),.M 0 ((CW (l:=M.vs.map Vr.D) (by rw[lv];exact (ac h.many (show 4<=lim from aa rfl)))).trans (by rw[lv])),.M 1 (CW (ac h.tl (show 2<=lim from aa rfl))),.M 1 (M_ (c:=W) (by rw[lv];exact (ac h.many (show 4<=lim from aa rfl)))),.M 0 ((CW (by rw[lv];exact (ac h.many (show 4<=lim from aa rfl)))).trans (by rw[lv])),.M 1 (bm (W:=W) (k:=M.vs.length)),.M 0 (M_ (c:=W - M.vs.length) (ac h.tl (show 2<=lim from aa rfl)))]
 obtain ⟨X,hX⟩:=OK (λv hv=>h.vars v (cU hv)) (ac (bG _ _) h.many) (λd hd=>h.wr d (cU hd)) (ac (bG _ _) h.tl) (FW h (kI M W)) (OL h (kI M W))
 refine (W0 n (mo:=.list (J' ((M.vs.take W).map Vr.D) (M.ts.take (W - M.vs.length)) (Bi (MW M (kI M W))) (MN (MX M (kI M W))))) r rfl hX).elim λτ e=>?_
 rw[iA] at e;have b0:=Ki (W:=W) (a:=M.vs.length) (b:=M.ts.length) (j:=0);have b1:=Ki (W:=W) (a:=M.vs.length) (b:=M.ts.length) (j:=1)
 refine ⟨τ,.go 4 s2 ?_⟩
 change decide _=decide (0<kI M W) at b0
 change decide _=decide (1<kI M W) at b1
 generalize kI M W=k at*
 cases k with
 |zero=>exact wf [.M 0 (M9 (c:=c) h.p8),.B 1 (b0),.B 2 (b1),.V 3 e]
 |succ k=>cases k with
  |zero=>exact wf [.M 0 (M9 (c:=c) h.p8),.B 1 (b0),.B 1 (b1),.V 3 e]
  |succ k=>exact wf [.M 0 (M9 (c:=c) h.p8),.B 1 ((b0.trans (decide_eq_true (bU _)))),.B 1 ((b1.trans (decide_eq_true (uH (bU _))))),.V 2 e]
theorem CX(hi:M.its[j]? =some i):∃r,M.text=texts (M.its.take j)++(i.bt++(tx ";\n"++r)):=by
 refine (aL.mp hi).elim λhj e=>⟨texts (M.its.drop (j+1)),?_⟩
 have q:M.its=M.its.take j++([i]++M.its.drop (j+1)):=by
  show _=M.its.take j++i::M.its.drop (j+1);rw[<-e,<-List.drop_eq_getElem_cons hj,jF]
 have q:=congrArg texts q;rw[nH]
 generalize M.its=its at*
 rw[jM,jM,show texts [i]=i.bt++tx ";\n" by rw[<-R2];show (i.P++[]).flatten=_;rw[au],ai] at q
 exact q
theorem abL(n:Nat)(h:ej M)(hc:c<=M.text.length):∃τ,cl (n+15) 616 [tS M.text,.d (.list (M.items.map itD)),.d M.D,tI c] []= .ok (.d (.bool true)) τ:=by
 have hl:M.its.length<=100:=by
  simp only [ae,ae,af,af];exact ac (be h.many (aB h.tl 2)) (aa rfl)
 obtain ⟨x',r⟩:=M8 (C:=aQ TT (n+14)) (σ:=[]) (M:=M) (c:=c) (λi hi=>by
  simp only [R2,ae];exact ac (aB (Itm.len (h.ok.MR i hi)) 2) (aa rfl)) (a:=0) (E:=[0]) (x:=none) (ac (aK (ci 2 hl) 1) (by decide))
 rw[show (M.its.map λi=>itD i.P)=M.items.map itD by rw[nG,bR];rfl] at r
 have s1:(zz ((LS.drop 0).take 3)).m (aQ TT (n+14)) (j9 [tS M.text,.d (.list (M.items.map itD)),.d M.D,tI c] 14) []= .ok .next (aE M c ([0]++ends 0 M.its) (0+(texts M.its).length) x' none none none) []:=ws [.S 3 r];have le:([0]++ends 0 M.its).length<=1000:=by
  have:∀{its:List It} {a},(ends a its).length=2*its.length:=λ{its}=>by
   induction its with
   |nil=>exact λ{_}=>rfl
   |cons i its ih=>exact λ{_}=>congrArg (·+2) ih
  rw[ae,this];exact ac (aK (ci 2 hl) 1) (by decide)
 have fn {W idx:Nat} (ha:([0]++ends 0 M.its).any (·==c)=true) (hi:([0]++ends 0 M.its).findIdx (·==c)=idx) (hw:(idx+1)/2=W) (r:Rr M W (M.text.take c)):∃τ,cl (n+15) 616 [tS M.text,.d (.list (M.items.map itD)),.d M.D,tI c] []= .ok (.d (.bool true)) τ:=by
  exact (Xi (x:=x') n h le ha hi hw r).elim λτ e=>⟨τ,Wz.call VG (.go 3 s1 e)⟩
 rcases iQ c with rfl|h0
 ·exact fn (idx:=0) rfl rfl rfl (OF h)
 cases lies h0 (by rw[<-nH,bA];exact hc) with
 |@cut j r i e1 e2 e3 e4 e5=>
  rw[bA] at e2;obtain ⟨rest,et⟩:=CX e1;have tk:M.text.take c=texts (M.its.take j)++i.bt.take r:=by rw[et,e2,eR,List.take_append_of_le_length e4]
  obtain ⟨p,q1,q2⟩:=W9 h e1 e3 e4 n;rw[<-tk] at q1 q2;refine ⟨[],Wz.call VG (.go 3 s1 ?_)⟩;exact wf [.T 0 (Kh.trans (by show Internal.M.ret (!((0==c)||(ends 0 M.its).any (·==c)))=_;rw[(nb (bT h0)),e5];rfl):vNotIn (tI c) (.d (OM ([0]++ends 0 M.its)))=Internal.M.ret true),.M 1 (M9 (c:=c) h.p8),.V 1 (W_ n (k0:= -1) q1 (ac (bG _ _) h.p8) (by show (decide _&&decide _)=true;rw[decide_eq_true q2.1,decide_eq_true q2.2];rfl))]
 |@fin j e i e1 e2 e3 e4 e5=>
  rw[bA] at e3;obtain ⟨rest,et⟩:=CX e1;have tk:M.text.take c=texts (M.its.take j)++(i.bt++(tx ";\n"++rest).take (1+e)):=by rw[et,e3,bo,bo,eR,eR]
  have ha:([0]++ends 0 M.its).any (·==c)=true:=by show ((0==c)||(ends 0 M.its).any (·==c))=true;rw[(nb (bT h0)),e4];rfl
  have hf:([0]++ends 0 M.its).findIdx (·==c)=2*j+e+1:=by show (0::ends 0 M.its).findIdx _=_;rw[dM,(nb (bT h0)),e5];rfl
  cases e with
  |zero=>
   refine fn ha hf (by show (2*j+2)/2=j+1;exact Nat.mul_div_cancel_left (j+1) (by decide)) ?_
   simp only [tk];exact Rv h e1
  |succ e=>
   obtain rfl:=i8.mp (bK e2);refine fn ha hf (by show (2*(j+1)+1)/2=j+1;rw[Nat.mul_add_div (by decide)]) ?_
   have q:=OF (n:=j+1) h;simp only [take1 e1,jM,show texts [i]=i.bt++tx ";\n" by rw[<-R2];show (i.P++[]).flatten=_;rw[au]] at q
   simp only [tk];exact q
end
noncomputable abbrev AY(l:List Int)(M:LM)(nm dm td a b c d e f g:Option Internal.V):Env:=[some (.raw (l.map .int)),some (.obj 0),some (.d M.D),some (.d (.list (M.vs.map Vr.D))),some (.d (.list M.ts)),some (.d (.tup [.str M.gk,CO M.gv])),some (.d M.sh),some (.obj 2),nm,dm,td,a,b,c,d,e,f,g]
noncomputable abbrev Ht(cells:List Int)(k:Nat)(gl sh:Internal.D)(vs ts:List Internal.D):Store:=[fd cells k,.dead,CR (.obj 3) (.obj 4) gl sh,cx vs,cx ts]
noncomputable abbrev Kj:XE:=pU (t2 vNe (xl 0) (xL [])) (xk (iE (xu (xl 0) xn (xi 40))) (uv 0) K621 [none]) (xL [xi 3,xi 1,xi 4,xi 0,xi 5,xi 2,xi 6,xi 9])
section
variable{n k:Nat}{C:nj}{l:List Int}{M:LM}{cells:List Int}{ρ:Env}{gl sh:Internal.D}{W:List Internal.D}{vs:List Vr}{ts:List Internal.D}{nm dm td:Option Internal.V}{L:List XS}{R:Res V}{vals:List Internal.V}
theorem Wz.run{m:Nat}(h:Wz L 0 C (j9 vals k) [] R)(hl:vals.length=m:=by rfl):dI ⟨m,k,(zz L).m⟩ C vals []=R:=(if_pos hl).trans h
theorem feed(hl:l.length<=63):∃cells,Cl cells/\IA [(tx "cells",Kj.m),(tx "at",(xi 0).m)] C (some (.raw (l.map .int))::none::ρ) []= .ok (.obj 0) [fd cells 0]:=by
 have key:∃cells,Cl cells/\Kj.m C (some (.raw (l.map .int))::none::ρ) []= .ok (.d (.list (cells.map .int))) []:=by
  cases l with
  |nil=>exact ⟨[3,1,4,0,5,2,6,9],⟨nofun,aa rfl⟩,we []⟩
  |cons a l=>
   have ct:mJ (.raw ((a::l).map Internal.D.int)) (.d .none) (tI 40)=ret (.list (((a::l).take 40).map .int)):=(if_pos (by rw[af];exact ac hl (aa rfl))).trans (congrArg (λl=>ret (.list l)) (by
    show (((a::l).map Internal.D.int).drop 0).take (clipAt ((a::l).map Internal.D.int).length (40:Nat) - 0)=_;simp only [tb,iA];exact (gp ..).symm))
   have cc:=ce (C:=C) (σ:=[]) (f:=λx=>x) (l:=((a::l).take 40).map Internal.D.int) (i:=iE (xu (xl 0) xn (xi 40))) (e:=xf bInt [xl 0]) (cap:=[none]) (o:=none) (r:=[]) (ρ:=some (.raw ((a::l).map .int))::none::ρ)
    (we [.M 0 ct]) rfl (λx hx=>by
     obtain ⟨j,U,rfl⟩:=br.mp hx;exact we []) (by rw[af];exact ac (bG _ _) (ac hl (aa rfl)))
   simp only [li] at cc;exact ⟨(a::l).take 40,⟨nofun,ac (bG _ _) (ac hl (aa rfl))⟩,we [.V 3 cc]⟩
 obtain ⟨cells,h1,h2⟩:=key;refine ⟨cells,h1,?_⟩;have dv:wK [(tx "cells",Kj.m),(tx "at",(xi 0).m)] C (some (.raw (l.map .int))::none::ρ) []= .ok [(tx "cells",.d (.list (cells.map .int))),(tx "at",tI 0)] []:=by
  show Res.bind (Kj.m C (some (.raw (l.map .int))::none::ρ) []) _=_;rw[h2];rfl
 show Res.bind (wK [(tx "cells",Kj.m),(tx "at",(xi 0).m)] C (some (.raw (l.map .int))::none::ρ) []) _=_;rw[dv];show (if ([tx "cells",tx "at"]).Nodup then M.new (.dict [(tx "cells",.d (.list (cells.map .int))),(tx "at",tI 0)]) else M.no) []=_
 rw[if_pos (by decide+kernel)];rfl
theorem Xj:∀{W nm dm},W.length+vs.length<=100->∃nm' VT,jf ((vs.map Vr.D).map .d) (mT (up [uv 8,uv 9])) L621.m (aQ TT (n+1)) (AY l M nm dm none none none none none none none none) (Ht cells k gl sh W [])= .ok .next (AY l M nm' VT none none none none none none none none) (Ht cells k gl sh (W++vs.map Vr.D) []):=by
 induction vs with
 |nil=>exact λ{W nm dm} _=>⟨nm,dm,by rw[tF,au];rfl⟩
 |cons v vs ih=>
  intro W nm dm hl;obtain ⟨nm',VT,r⟩:=ih (W:=W++[v.D]) (nm:=some (tS v.1)) (dm:=some (.d (mW v.2))) (by rw[ae,bo,bI [_].length];exact hl)
  simp only [ai] at r;have e:cl (n+1) 126 [.obj 2,tS v.1,.d (mW v.2)] (Ht cells k gl sh W [])= .ok (tI (((W++[v.D]).map Internal.V.d).length - 1)) (Ht cells k gl sh (W++[v.D]) []):=by
   exact wc Vy [.v 3 (Kt (fd cells k) .dead (h:=[CR (.obj 3) (.obj 4) gl sh,cx W,cx []]) (j:=1) (ds:=W) v.D rfl (ac (ac (ak _ _) hl) (aa rfl))),.v 1 (rY (fd cells k) .dead (h:=[CR (.obj 3) (.obj 4) gl sh,cx (W++[v.D]),cx []]) (j:=1) rfl (by rw[af,ae];exact ac (ac (aK (aw (aZ vs.length)) _) hl) (aa rfl)))]
  refine ⟨nm',VT,(kL (ρ₁:=AY l M (some (tS v.1)) (some (.d (mW v.2))) none none none none none none none none) rfl ?_).trans r⟩;exact ws [.V 2 e]
theorem Xk:∀{T td},T.length+ts.length<=100->∃td',jf (ts.map .d) (mT (uv 10)) L621a.m (aQ TT (n+1)) (AY l M nm dm td none none none none none none none) (Ht cells k gl sh W T)= .ok .next (AY l M nm dm td' none none none none none none none) (Ht cells k gl sh W (T++ts)):=by
 induction ts with
 |nil=>exact λ{T td} _=>⟨td,by rw[au];rfl⟩
 |cons t ts ih=>
  intro T td hl;refine (ih (T:=T++[t]) (td:=some (.d t)) (by rw[ae,bo,bI [_].length];exact hl)).elim λtd' r=>?_
  simp only [ai] at r;have e:cl (n+1) 133 [.obj 2,.d t] (Ht cells k gl sh W T)= .ok (.d .none) (Ht cells k gl sh W (T++[t])):=wc Vz [.v 2 (Kt (fd cells k) .dead (h:=[CR (.obj 3) (.obj 4) gl sh,cx W,cx T]) (j:=2) t rfl (ac (ac (ak _ _) hl) (aa rfl)))];refine ⟨td',(kL (ρ₁:=AY l M nm dm (some (.d t)) none none none none none none none) rfl ?_).trans r⟩
  exact ws [.V 2 e]
theorem Kk(n:Nat)(hl:l.length<=63):∃cells M k nm dm td,Cl cells/\ej M/\1<=M.ts.length/\(zz ((D1.drop 0).take 7)).m (aQ TT (n+40)) (j9 [.raw (l.map .int)] 18) []= .ok .next (AY l M nm dm td none none none none none none none) (Ht cells k (Ot M) M.sh (M.vs.map Vr.D) M.ts):=by
 refine cps λP9 k9=>?_
 obtain ⟨cells,hc,f0⟩:=feed (C:=aQ TT (n+40)) (ρ:=(j9 [.raw (l.map .int)] 18).drop 2) hl;obtain ⟨M,k,hM,h1,f1⟩:=abE (n+34) hc 0;obtain ⟨nm,dm,r1⟩:=Xj (n:=n+39) (l:=l) (M:=M) (cells:=cells) (k:=k) (gl:=M0.gl) (sh:=M0.sh) (nm:=none) (dm:=none) (by rw[dR,bA];exact ac hM.many (by decide))
 obtain ⟨td,r2⟩:=Xk (n:=n+39) (l:=l) (M:=M) (cells:=cells) (k:=k) (gl:=M0.gl) (sh:=M0.sh) (W:=M.vs.map Vr.D) (ts:=M.ts) (nm:=nm) (dm:=dm) (td:=none) (by rw[dR,bA];exact ac hM.tl (by decide))
 exact k9 ⟨cells,M,k,nm,dm,td,hc,hM,h1,ws [.V 0 f0,.V 0 f1,.V 0 (rfl:cl (n+40) 150 [] [fd cells k,.dead]= .ok (.obj 2) (Ht cells k M0.gl M0.sh [] [])),.S 0 r1,.S 0 r2]⟩
end
section
variable{M:LM}{ds:List Internal.D}
theorem xO(ha:lD ls=some ds)(h:f ls []= .ok (.d x) τ):uV f ls σ= .ok (.d x) σ:=by
 show (lD ls).elim .stuck (λU=>Ap σ (f ls []))=_
 rw[ha,h];rfl
theorem FX:vNe (tS t) (tS t)=Internal.M.ret false:=congrArg (λb=>Internal.M.ret (!b)) (beq_self_eq_true t)
theorem Eu(n:Nat)(h:ej M)(hr:ρ[12]? =some (some (tS M.text))):vW 259 488 12 (aQ TT (n+13)) ρ σ= .ok (tS M.text) σ:=by
 refine cps λP9 k9=>?_
 obtain ⟨a,b,B,e⟩:=OD h n;obtain ⟨X,e2, -⟩:=WQ (A:=[a,b]) (n+8) h.ok (.inr rfl);refine k9 ?_;show (ρ[12]?).join.elim (Res.stuck) _=_;rw[hr];show Ap σ (Res.bind (cl (n+13) 488 [tS M.text] []) _)=_;rw[e];show Ap σ (cl (n+13) 259 [.obj 2] _)=_;rw[show cl (n+13) 259 [.obj 2] ([a,b]++CR (.obj 3) (.d (.list M.ts)) (Bi M.so) M.sh::cx (M.vs.map Vr.D):: .dead::B)= .ok (tS M.text) X from e2];rfl
theorem FY(n:Nat)(h:ej M)(hr:Hh t (M.vs.map Vr.D) M.ts (Bi M.so) M.sh):uV (cl (n+14) 595) [tS t,.d M.D] σ= .ok (.d (.bool true)) σ:=by
 refine (OK h.vars h.many h.wr h.tl (FW h 1) (OL h 2)).elim λX hX=>?_
 exact (W0 n (mo:=M.D) hr rfl hX).elim λτ e=>xO (ds:=[.str t,M.D]) rfl e
theorem Xl(h:ej M):M.its.length<=8:=by
 simp only [ae,ae,af,af];exact be h.many (aB h.tl 2)
theorem xP(n:Nat)(h:M.Ok)(j:Nat):cl (n+1) 581 [.d (.list ((M.items.take j).map itD))]=ret (.str ((M.items.take j).map fB).flatten):=by
 have l1:M.items.length<=22:=by
  simp only [LM.items,ae,ae,af,af];exact be h.vl (aB h.tl 2)
 have i5:∀it∈M.items.take j,it.flatten.length<=520:=λit hi=>by
  obtain ⟨b,rfl,hb⟩:=h.itm it (cU hi);simp only [bJ,ae];exact aB (Itm.len hb) 2
 refine aa3 n (ac (ac (bG j M.items) l1) (aa rfl)) (λit hi=>ac (i5 it hi) (aa rfl)) (ac (AQ λp hp=>?_) (ac (cV 520 (by rw[af];exact (ac (bG j M.items) l1))) (aa rfl)))
 obtain ⟨it,hi,rfl⟩:=br.mp hp;exact i5 it hi
theorem CY(n:Nat)(h:M.Ok):cl (n+1) 581 [.d (.list (M.items.map itD))]=ret (.str M.text):=by
 have q:=xP n h M.items.length;rw[gZ] at q
 exact q
theorem Xm{l:List Internal.D}(h:n<=l.length)(hl:l.length<=lim):mJ (.d (.list l)) (tI n) (.d .none)=ret (.list (l.drop n)):=(if_pos hl).trans (congrArg (λl=>ret (.list l)) (show (l.drop (clipAt l.length n)).take (l.length - clipAt l.length n)=l.drop n by rw[tb,gh h,<-g0,gZ]))
noncomputable abbrev bnE(K many:Int)(ts:List Internal.D):Env:=[some (.obj 0),some (tI K),some (tI many),some (.d (.list ts))]
noncomputable abbrev X_:XE:=pU (t2 vNe (xl 0) (xl 2)) (x2 vItem (xl 4) (xl 0)) (xc 609 [xl 1,x2 vItem (xl 4) (xl 2),xl 3])
theorem CZ(h:e.m C (some v::r) σ= .ok (.d y) τ):hH (mT (uv 0)) (bE (xR bTrue) e) C (v::xs) (o::r) σ=(hH (mT (uv 0)) (bE (xR bTrue) e) C xs (some v::r) τ).bind λq τ'=>.ok (q.1,y::q.2) τ':=by
 have h4:bE (xR bTrue) e C (some v::r) σ= .ok (some v::r,[y]) τ:=by
  show (e.m C (some v::r) σ).bind _=_;rw[h];rfl
 show (bE (xR bTrue) e C (some v::r) σ).bind _=_;rw[h4];rfl
inductive C0(cells:List Int)(g:Store)(many:Int)(ts:List Internal.D)(K:Nat)(res:Res Internal.V):Prop
 |mk {TA TB:List Internal.D} {d d':Internal.D} {k':Nat}:ts=TA++d::TB->K=TA.length->oG many d d'->res= .ok (.d (.list (TA++d'::TB))) (fd cells k'::g)->C0 cells g many ts K res
theorem C0.el{cells:List Int}{many:Int}{K:Nat}{b9:Prop}(h9:C0 cells g many ts K res)(k9:∀{TA TB:List Internal.D} {d d':Internal.D} {k':Nat},ts=TA++d::TB->K=TA.length->oG many d d'->res= .ok (.d (.list (TA++d'::TB))) (fd cells k'::g)->b9):b9:=C0.rec k9 h9
theorem RG(n:Nat)(hc:Cl cells){many:Int}(hm:2<=many){ts:List Internal.D}(ht:∀d∈ts,LT many d)(tl:ts.length<=2){K:Nat}(hK:K<ts.length)(k:Nat)(g:Store):C0 cells g many ts K (ri (hH (mT (uv 0)) (bE (xR bTrue) X_) (aQ TT (n+3)) ((ew 0 ts.length).map λk:Nat=>tI k) (none::bnE K many ts) (fd cells k::g))):=by
 have yes {t:Internal.D} {o:Option Internal.V} {k:Nat} (h:LT many t) (it:vItem (.d (.list ts)) (tI K)=ret t):∃d' k',oG many t d'/\X_.m (aQ TT (n+3)) (some (tI K)::bnE K many ts) (fd cells k::g)= .ok (.d d') (fd cells k'::g):=by
  exact (abI n hc hm h k g).el @λd k' e q=>⟨d,k',q,we [.B 1 (congrArg not (beq_self_eq_true _:((K:Int)==K)=true)),.M 0 it,.V 0 e]⟩
 have no {j:Nat} {t:Internal.D} {k:Nat} (h:((j:Int)==K)=false) (it:vItem (.d (.list ts)) (tI j)=ret t):X_.m (aQ TT (n+3)) (some (tI j)::bnE K many ts) (fd cells k::g)= .ok (.d t) (fd cells k::g):=we [.B 1 (congrArg not h),.M 0 it];cases ts with
 |nil=>exact absurd hK (vH _)
 |cons t ts=>
  cases ts with
  |nil=>
   obtain rfl:=i8.mp (fD hK);obtain ⟨d',k',q,e⟩:=yes (o:=none) (ht t (.head _)) (oF (by decide) rfl)
   exact .mk (TA:=[]) rfl rfl q (by show ri (hH _ _ _ [tI (0:Nat)] _ _)=_;rw[CZ e];rfl)
  |cons u ts=>
   obtain rfl:=di.mp (i8.mp (bK (bK tl)));cases K with
   |zero=>
    obtain ⟨d',k',q,e⟩:=yes (o:=none) (ht t (.head _)) (oF (by decide) rfl)
    exact .mk (TA:=[]) (TB:=[u]) rfl rfl q (by show ri (hH _ _ _ [tI (0:Nat),tI (1:Nat)] _ _)=_;rw[CZ e,CZ (no (j:=1) (k:=k') (rfl) (oF (by decide) rfl))];rfl)
   |succ K=>
    obtain rfl:=i8.mp (fD (jl hK));obtain ⟨d',k',q,e⟩:=yes (o:=none) (ht u (.tail _ (.head _))) (oF (by decide) rfl:vItem (.d (.list [t,u])) (tI (1:Nat))=ret u)
    exact .mk (TA:=[t]) rfl rfl q (by show ri (hH _ _ _ [tI (0:Nat),tI (1:Nat)] _ _)=_;rw[CZ (no (j:=0) (k:=k) (rfl) (oF (by decide) rfl)),CZ e];rfl)
end
section
variable{n k m:Nat}{l:List Int}{M:LM}{cells:List Int}{X:Store}{V1 V2:List Vr}{its:List It}{R:Res Internal.V}{i K s:Int}{u:Tx}{nm dm td a b c d e f g:Option Internal.V}{TA TB:List Internal.D}{t d':Internal.D}
noncomputable abbrev iD(its:List It):Internal.D:=.list (its.map λi=>itD i.P)
theorem FZ:M.items.map itD=M.its.map λi=>itD i.P:=by rw[nG,bR];rfl
theorem RH(h:oG many t d')(hm:2<=many)(h9:many<=9):(∀N,pe (N+6) many d')/\Wr d'/\∃l,d'= .tup l:=by
 cases h with|mk hp hn ha hb=>
 refine ⟨λN=>Eh hm hn.2 hp ha hb,MP hn.2 (aX (by decide) hm) h9 hp ha hb,?_⟩
 cases hb<;>exact ⟨_,rfl⟩
theorem ej.m2(h:ej M):(2:Int)<=(M.vs.length:Nat):=by
 obtain ⟨r,e, -⟩:=h.vs;rw[e];exact c_.mpr (cK 2 r.length)
theorem ej.lv(h:ej M):bLen [.d (.list (M.vs.map Vr.D))]=Internal.M.ret (tI M.vs.length):=(CW (by rw[Internal.lv];exact ac h.many (aa rfl))).trans (by rw[Internal.lv])
theorem ej.lt(h:ej M):bLen [.d (.list M.ts)]=Internal.M.ret (tI M.ts.length):=CW (ac h.tl (aa rfl))
theorem Xn(n:Nat)(h:ej M):∃X,(zz ((D1.drop 7).take 4)).m (aQ TT (n+40)) (AY l M nm dm td none none none none none none none) (Ht cells k (Ot M) M.sh (M.vs.map Vr.D) M.ts)= .ok .next (AY l M nm dm td (some (.d (.list (M.items.map itD)))) (some (tS M.text)) (some (.d (.list (M.items.map itD)))) (some (tI M.vs.length)) none none none) (fd cells k::X):=by
 refine cps λP9 k9=>?_
 obtain ⟨g,f1⟩:=WD (σ:=Ht cells k (Ot M) M.sh (M.vs.map Vr.D) M.ts) (n+33) h.ok;obtain ⟨U,f3,X,rfl⟩:=WQ (A:=[fd cells k,.dead]) (B:=g) (w:=.obj 4) (n+35) h.ok (.inl ⟨rfl,rfl⟩);refine k9 ⟨.dead::X,?_⟩;exact ws [.V 0 f1,.M 0 (CY (n+39) h.ok),.V 0 f3,.T 0 (FX (t:=M.text)),.V 1 (FY (σ:=fd cells k:: .dead::X) (n+26) h (OD h)),.V 2 (Eu (σ:=fd cells k:: .dead::X) (n+27) h (ρ:=AY l M nm dm td (some (.d (.list (M.items.map itD)))) (some (tS M.text)) none none none none none) rfl),.T 0 (FX (t:=M.text)),.M 1 h.lv]
theorem Xo(n:Nat)(hc:Cl cells)(h:ej M):∃V1 V2 k',V1++V2=M.vs/\(zz ((D1.drop 11).take 1)).m (aQ TT (n+40)) (AY l M nm dm td (some (.d (.list (M.items.map itD)))) b (some (.d (.list (M.items.map itD)))) (some (tI M.vs.length)) none none none) (fd cells k::X)= .ok .next (AY l M nm dm td (some (.d (.list (M.items.map itD)))) b (some (.d (iD (vF V1 M.ts M.so (some M.sh) V2)))) (some (tI M.vs.length)) none none none) (fd cells k'::X):=by
 refine cps λP9 k9=>?_
 refine (nJ (n+39) hc (top:=2) (by decide) k X).int λi k' e h0 h1=>?_
 cases eq:i==0 with
 |false=>
  refine k9 ⟨M.vs,[],k',au _,?_⟩;rw[FZ];exact ws [.V 0 e,.B 1 eq]
 |true=>
  refine k9 ⟨[],M.vs,k',rfl,?_⟩;have ll:M.items.map itD=(M.vs.map λv=>itD (It.var v).P)++((M.ts.map It.con++Hs M.so (some M.sh)).map λi=>itD i.P):=by
   rw[FZ];show (M.vs.map It.var++_).map _=_;rw[aH,bR];rfl
  have l1:(M.items.map itD).length<=8:=by rw[FZ,af];exact Xl h
  have lm:=ac l1 (show 8<=lim from aa rfl)
  have c3:vAdd (.d (.list ((M.ts.map It.con++Hs M.so (some M.sh)).map λi=>itD i.P))) (.d (.list (M.vs.map λv=>itD (It.var v).P)))=ret (iD (vF [] M.ts M.so (some M.sh) M.vs)):=(if_pos (by rw[ll,ae,bI] at lm;exact lm)).trans (congrArg (λl=>ret (.list l)) (by
   show _=(M.ts.map It.con++(Hs M.so (some M.sh)++M.vs.map It.var)).map _;rw[<-ai,aH (l₁:=M.ts.map It.con++_),bR (l:=M.vs)];rfl))
  exact ws [.V 0 e,.B 1 eq,.M 0 ((Xm (by rw[ll,ae,af];exact ak _ _) lm).trans (by rw[ll,List.drop_left' (af _)]):mJ (.d (.list (M.items.map itD))) (tI M.vs.length) (.d .none)=ret (.list ((M.ts.map It.con++Hs M.so (some M.sh)).map λi=>itD i.P))),.M 0 ((M_ lm).trans (by rw[ll,vP (af _)]):mJ (.d (.list (M.items.map itD))) (.d .none) (tI M.vs.length)=ret (.list (M.vs.map λv=>itD (It.var v).P))),.M 0 c3]
theorem Xp{i:It}(h:Itm i.b=true):∀p∈i.P,OG p=true:=λp hp=>by
 rw[It.Hg] at hp;exact (bf.mp hp).elim (aJ.mp (vE.all (Itm.in h)) p) (aJ.mp (show k_.all OG=true by kernel_rfl) p)
theorem Kl(hv:V1++V2=M.vs){i:It}(hi:i∈vF V1 M.ts M.so (some M.sh) V2):i∈M.its:=by
 show i∈M.vs.map It.var++(M.ts.map .con++Hs M.so (some M.sh));rw[<-hv,aH];rcases bf.mp hi with hi|hi
 ·exact bj _ (bj _ hi)
 rw[<-ai] at hi;exact (bf.mp hi).elim (λhi=>aU _ hi) λhi=>bj _ (aU _ hi)
theorem Xq(n:Nat)(hc:Cl cells)(h:ej M)(hv:V1++V2=M.vs):∃k' X',(zz ((D1.drop 12).take 1)).m (aQ TT (n+40)) (AY l M nm dm td a b (some (.d (iD (vF V1 M.ts M.so (some M.sh) V2)))) d none none none) (fd cells k::X)= .ok .next (AY l M nm dm td a b (some (.d (iD (vF V1 M.ts M.so (some M.sh) V2)))) d none none none) (fd cells k'::X'):=by
 refine cps λP9 k9=>?_
 refine (nJ (n+39) hc (top:=20) (by decide) k X).int λi k' e h0 h1=>?_
 have ok:∀l∈(vF V1 M.ts M.so (some M.sh) V2).map It.P,(∀p∈l,OG p=true)/\l.length<=610:=λp hp=>by
  obtain ⟨i,hi,rfl⟩:=br.mp hp;exact ⟨Xp (h.ok.MR i (Kl hv hi)),by rw[It.Hg,show i.hd::tx " "::(i.B++k_)=i.b++k_ from rfl,ae];exact aB (Itm.cnt (h.ok.MR i (Kl hv hi))) 2⟩
 have lc:((vF V1 M.ts M.so (some M.sh) V2).map It.P).flatten.length<=10000:=ac (AQ λp hp=>(ok p hp).2) (ac (cV 610 (show _<=8 by
  have q:=h.many;rw[<-hv,ae] at q
  show ((V1.map It.var++(M.ts.map It.con++([_,_]++V2.map It.var))).map It.P).length<=8;rw[af,ae,ae,ae,af,af,af,bI [_,_].length,tK M.ts.length,<-bo];exact be q (aB h.tl 2))) (aa rfl))
 obtain ⟨g,u,h1,h2,f2⟩:=abw (σ:=fd cells k'::X) (sa:=i) (n+39) (λl hl=>(ok l hl).1) lc
 rw[bR] at f2;refine k9 ⟨k',X++g,?_⟩;exact ws [.V 0 e,.V 0 f2,.V 0 (FY (σ:=fd cells k'::(X++g)) (n+26) h (W6 h hv h1 h2))]
theorem Xr(n:Nat)(hc:Cl cells)(h:ej M)(h1:1<=M.ts.length):∃(K:Int) (TA:List Internal.D) (t:Internal.D) (TB:List Internal.D) (d':Internal.D) (k':Nat),M.ts=TA++t::TB/\K=(TA.length:Nat)/\oG M.vs.length t d'/\(zz ((D1.drop 13).take 2)).m (aQ TT (n+40)) (AY l M nm dm td a b c (some (tI M.vs.length)) none none none) (fd cells k::X)= .ok .next (AY l M nm dm td a b c (some (tI M.vs.length)) (some (tI K)) (some (.d (.list (TA++d'::TB)))) none) (fd cells k'::X):=by
 refine cps λP9 k9=>?_
 refine (nJ (n+39) hc (aP.mpr h1) k X).int λi k' e h0 hi=>?_
 obtain ⟨K,rfl⟩:=eF h0;refine (RG (n+37) hc h.m2 h.ts h.tl (aP.mp hi) k' X).el @λTA TB t d' k2 e1 e2 e3 e4=>?_
 have f:s6 (iR [xf bLen [xl 4]]).m (mT (uv 0)) (bE (xR bTrue) X_) [none,some 1,some 15,some 14,some 4] (aQ TT (n+40)) (AY l M nm dm td a b c (some (tI M.vs.length)) (some (tI K)) none none) (fd cells k'::X)= .ok (.d (.list (TA++d'::TB))) (fd cells k2::X):=by
  show Res.bind ((iR [xf bLen [xl 4]]).m _ _ _) _=_;rw[iR1 (n:=M.ts.length) (σ:=fd cells k'::X) (we [.M 0 h.lt]) (bi h.tl (aa rfl))];exact e4
 exact k9 ⟨K,TA,t,TB,d',k2,e1,congrArg Int.ofNat e2,e3,ws [.M 0 h.lt,.V 0 e,.V 0 f]⟩
theorem Xs(n:Nat)(h:ej M)(ht:M.ts=TA++t::TB)(hK:K=(TA.length:Nat))(hb:oG M.vs.length t d'):∃s X',(zz ((D1.drop 15).take 2)).m (aQ TT (n+40)) (AY l M nm dm td (some (.d (.list (M.items.map itD)))) b c (some (tI M.vs.length)) (some (tI K)) (some (.d (.list (TA++d'::TB)))) none) (fd cells k::X)= .ok .next (AY l M nm dm td (some (.d (.list (M.items.map itD)))) b c (some (tI M.vs.length)) (some (tI K)) (some (.d (.list (TA++d'::TB)))) (some (tI s))) (fd cells k::X'):=by
 refine cps λP9 k9=>?_
 obtain ⟨hf,hw,U,hl⟩:=RH hb h.m2 h.m9;subst hK;obtain ⟨g,f4⟩:=WD (σ:=fd cells k::X) (n+33) (h.AW ht hw);have et:M.its.take (M.vs.length+TA.length)=M.vs.map .var++TA.map .con:=by
  show (M.vs.map It.var++(M.ts.map It.con++_)).take _=_;rw[ht,aH,ai (TA.map It.con),<-ai (M.vs.map It.var),vP (by rw[ae,af,af])]
 have f2:cl (n+40) 581 [.d (.list ((M.items.take (M.vs.length+TA.length)).map itD))]=ret (.str (texts (M.vs.map .var++TA.map .con))):=(xP (n+39) h.ok _).trans (congrArg (λt=>ret (.str t)) (by
  rw[<-et,texts,xI,iA (f:=It.P),<-nG,qi]))
 refine k9 ⟨((texts (M.vs.map .var++TA.map .con)).length+11:Nat),X++g,?_⟩;exact ws [.M 1 ((M_ (ac (show _<=8 by rw[FZ,af];exact Xl h) (aa rfl))).trans (by rw[iA]):mJ (.d (.list (M.items.map itD))) (.d .none) (tI ((M.vs.length:Nat)+(TA.length)))=ret (.list ((M.items.take (M.vs.length+TA.length)).map itD))),.M 0 f2,.M 0 (if_pos (ac (et▸sub_len) h.p8):bLen [tS (texts (M.vs.map .var++TA.map .con))]=Internal.M.ret (tI (texts (M.vs.map .var++TA.map .con)).length)),.V 3 f4,.M 0 (CY (n+39) (h.AW ht hw)),.V 0 (xO (σ:=fd cells k::(X++g)) (ds:=[.str (LM.text {M with ts:=TA++d'::TB}),.int ((texts (M.vs.map .var++TA.map .con)).length+11:Nat)]) rfl (W_ (n+26) (W7 h ht hf hw hl (n+26)) (rj (h.AW ht hw).len) ((if_pos (uJ _)).trans (beq_self_eq_true _))))]
theorem RI(n:Nat)(hl:l.length<=63):∃τ,dI Ft (aQ TT (n+40)) [.raw (l.map .int)] []= .ok (.d (.bool true)) τ:=by
 refine cps λP9 k9=>?_
 obtain ⟨cells,M,k,nm,dm,td,hc,h,h1,e0⟩:=Kk n hl;obtain ⟨X1,e1⟩:=Xn (l:=l) (k:=k) n h;obtain ⟨V1,V2,k2,hv,e2⟩:=Xo (l:=l) (k:=k) (X:=X1) n hc h;obtain ⟨k3,X3,e3⟩:=Xq (l:=l) (nm:=nm) (dm:=dm) (k:=k2) (X:=X1) n hc h hv;obtain ⟨K,TA,t,TB,d',k4,ht,hK,hb,e4⟩:=Xr (l:=l) (nm:=nm) (dm:=dm) (k:=k3) (X:=X3) n hc h h1;obtain ⟨s,X5,e5⟩:=Xs (l:=l) (nm:=nm) (k:=k4) (X:=X3) n h ht hK hb;cases nJ (n+39) hc (Int.lt_add_one_of_le (uJ _)) k4 X5 with|@mk U k6 e q=>cases q with|@mk i h0 hi=>
 obtain ⟨c,rfl⟩:=eF h0;obtain ⟨τ,f⟩:=abL (n+25) h (c_.mp (km hi));refine k9 ⟨fd cells k6::X5,Wz.run (.go 7 e0 (.go 4 e1 (.go 1 e2 (.go 1 e3 (.go 2 e4 (.go 2 e5 ?_))))))⟩;exact wf [.M 0 (if_pos h.p8:bLen [tS M.text]=Internal.M.ret (tI M.text.length)),.V 1 e,.V 0 (xO (σ:=fd cells k6::X5) (ds:=[.str M.text,.list (M.items.map itD),M.D,.int c]) rfl f)]
theorem Ya:Fv:=λU hl=>RI 20 hl
end
end Mine.Internal
namespace Mine.fin
theorem t:True:=⟨⟩
theorem tw10007411396671696613:True:=t
theorem tw10084629386211731818:True:=t
theorem tw1014637456484912126:True:=t
theorem tw10194128795564708546:True:=t
theorem tw10196768644732416780:True:=t
theorem tw10234915967203826555:True:=t
theorem tw10242451874928486539:True:=t
theorem tw10279692637995926009:True:=t
theorem tw10329872625359487480:True:=t
theorem tw10391319463526535247:True:=t
theorem tw10393886385942881009:True:=t
theorem tw10411508006071892022:True:=t
theorem tw10511823565363050587:True:=t
theorem tw10567028658651823492:True:=t
theorem tw10580198807604790814:True:=t
theorem tw10696652717036330658:True:=t
theorem tw10708223146118651492:True:=t
theorem tw10751089155417173751:True:=t
theorem tw10782327089294195420:True:=t
theorem tw1080700006314346644:True:=t
theorem tw10818889477481085253:True:=t
theorem tw10829458402184033698:True:=t
theorem tw10852849658779182186:True:=t
theorem tw10874316729293906858:True:=t
theorem tw10875463905939285979:True:=t
theorem tw1088692219920020602:True:=t
theorem tw10895054467252067526:True:=t
theorem tw10925335251469727208:True:=t
theorem tw10939691994893167182:True:=t
theorem tw10998343915150870288:True:=t
theorem tw11024638832163780183:True:=t
theorem tw11037934215115759444:True:=t
theorem tw11039862389202566683:True:=t
theorem tw11040825799340251285:True:=t
theorem tw1105837973531982728:True:=t
theorem tw11061592194353771069:True:=t
theorem tw11079828417688620724:True:=t
theorem tw11147117730913898307:True:=t
theorem tw11151619158091525091:True:=t
theorem tw11192643925408225281:True:=t
theorem tw11227884535216515135:True:=t
theorem tw11273041486466551846:True:=t
theorem tw11277574374343807151:True:=t
theorem tw1128348596072947701:True:=t
theorem tw11293339424137598113:True:=t
theorem tw11298980531735778240:True:=t
theorem tw11325060847842403200:True:=t
theorem tw11336253725339858928:True:=t
theorem tw11414674201277728305:True:=t
theorem tw114324938638158839:True:=t
theorem tw11454252539852477091:True:=t
theorem tw11575174756993882273:True:=t
theorem tw11607805686811502034:True:=t
theorem tw11615019562542576733:True:=t
theorem tw11897717083992391400:True:=t
theorem tw11936995450923721628:True:=t
theorem tw11953781441336167498:True:=t
theorem tw1202912048536075021:True:=t
theorem tw12072802829135307789:True:=t
theorem tw12118000046449163591:True:=t
theorem tw12135189313929291683:True:=t
theorem tw12149302876761508202:True:=t
theorem tw12171577908484138354:True:=t
theorem tw12212933522069011988:True:=t
theorem tw12221555665107904926:True:=t
theorem tw12237877928780879103:True:=t
theorem tw12239064139714945176:True:=t
theorem tw12291753297600562012:True:=t
theorem tw12292906935544458286:True:=t
theorem tw12347537446847802165:True:=t
theorem tw12355744275394475900:True:=t
theorem tw12409915417874342407:True:=t
theorem tw12448240930570709186:True:=t
theorem tw12494888245299231016:True:=t
theorem tw1252854909445205041:True:=t
theorem tw12550770813317053977:True:=t
theorem tw12557769604369416430:True:=t
theorem tw12567809125941998234:True:=t
theorem tw12612204703400128841:True:=t
theorem tw12629903358213643309:True:=t
theorem tw12696600883282566439:True:=t
theorem tw12711679700452659978:True:=t
theorem tw12718612220689870738:True:=t
theorem tw12740692763255036000:True:=t
theorem tw12751662967071866640:True:=t
theorem tw12780881840741157306:True:=t
theorem tw12829507556594621215:True:=t
theorem tw12847644182280273618:True:=t
theorem tw12868640280835112553:True:=t
theorem tw12876064707754696378:True:=t
theorem tw12876116671307685997:True:=t
theorem tw12932903420030652473:True:=t
theorem tw12946824338688289833:True:=t
theorem tw12962497063298326498:True:=t
theorem tw12977279227502587607:True:=t
theorem tw13021059552284102479:True:=t
theorem tw13035599975385658867:True:=t
theorem tw13066358836101814915:True:=t
theorem tw13093503161671486093:True:=t
theorem tw13119895379190043232:True:=t
theorem tw13158425560686309300:True:=t
theorem tw13162651487661262736:True:=t
theorem tw13170543777164387458:True:=t
theorem tw13199158710529813207:True:=t
theorem tw13272504610945704091:True:=t
theorem tw13278809456085556237:True:=t
theorem tw13294311002278339166:True:=t
theorem tw13295704053362595847:True:=t
theorem tw13326868189938593150:True:=t
theorem tw13360279666012451719:True:=t
theorem tw13383306551100868464:True:=t
theorem tw13412572060209156058:True:=t
theorem tw13423622936843584764:True:=t
theorem tw13467322939085005891:True:=t
theorem tw13469397999491448738:True:=t
theorem tw13516622038369049944:True:=t
theorem tw13534373051914743626:True:=t
theorem tw13574545013463194659:True:=t
theorem tw13700621096757390547:True:=t
theorem tw13790858721211988464:True:=t
theorem tw13814004702073501669:True:=t
theorem tw13815853411582834384:True:=t
theorem tw13866324603207620666:True:=t
theorem tw13870153662132920491:True:=t
theorem tw13898374239775968522:True:=t
theorem tw1390109508276135513:True:=t
theorem tw13929302177132474383:True:=t
theorem tw1397303283331804279:True:=t
theorem tw14018533915963200917:True:=t
theorem tw14075178694198228753:True:=t
theorem tw14109310954907245088:True:=t
theorem tw14111491100615862519:True:=t
theorem tw14134379338385194387:True:=t
theorem tw14139026862911339306:True:=t
theorem tw14166196953294261902:True:=t
theorem tw14239432107786713131:True:=t
theorem tw14279960228734115912:True:=t
theorem tw14333544728242365436:True:=t
theorem tw14345562132136545540:True:=t
theorem tw14347400895652799225:True:=t
theorem tw14431720936831517352:True:=t
theorem tw14449560505687523246:True:=t
theorem tw14497727239971306367:True:=t
theorem tw1450881378762983150:True:=t
theorem tw14517287926952318261:True:=t
theorem tw14541005305830221311:True:=t
theorem tw14560573928864763818:True:=t
theorem tw14568449535678555946:True:=t
theorem tw14574801432027512755:True:=t
theorem tw14637358334870819178:True:=t
theorem tw14658254696389335927:True:=t
theorem tw14679806638718605512:True:=t
theorem tw14728723275428758510:True:=t
theorem tw14786503066443513839:True:=t
theorem tw14814673180317915700:True:=t
theorem tw14838103818555229697:True:=t
theorem tw14855157385224911753:True:=t
theorem tw14856888987745899463:True:=t
theorem tw14899709244077398024:True:=t
theorem tw14913746390764597971:True:=t
theorem tw15069271281064182630:True:=t
theorem tw15083174532876359662:True:=t
theorem tw15094949803261831281:True:=t
theorem tw15149952090015108872:True:=t
theorem tw15201286185872193147:True:=t
theorem tw15205425988870721313:True:=t
theorem tw15216479089859931547:True:=t
theorem tw15234240111613058569:True:=t
theorem tw15309079848183770524:True:=t
theorem tw15344004072050561172:True:=t
theorem tw1535588207084551279:True:=t
theorem tw15373703851562958014:True:=t
theorem tw15399907426655090358:True:=t
theorem tw15434440284735832900:True:=t
theorem tw1544503264643628384:True:=t
theorem tw1545086475593560577:True:=t
theorem tw15459455144867644326:True:=t
theorem tw15476544859757588837:True:=t
theorem tw15530151957754944063:True:=t
theorem tw15564276425815640635:True:=t
theorem tw15566928917628492161:True:=t
theorem tw15583698165555649274:True:=t
theorem tw15590172107835277464:True:=t
theorem tw1560641971993327685:True:=t
theorem tw15621619335703214680:True:=t
theorem tw15670795748149154135:True:=t
theorem tw15675102808854859970:True:=t
theorem tw15688172546075569117:True:=t
theorem tw15718796082602202473:True:=t
theorem tw15741700470354863883:True:=t
theorem tw15815952407149668801:True:=t
theorem tw15832999045522443761:True:=t
theorem tw15845795089162586078:True:=t
theorem tw15913912297419572864:True:=t
theorem tw15989303212955285315:True:=t
theorem tw16022077011142191858:True:=t
theorem tw16103849850496634939:True:=t
theorem tw16109372258727991565:True:=t
theorem tw16115155874713506467:True:=t
theorem tw1613116972386908190:True:=t
theorem tw16175276709679454751:True:=t
theorem tw16192418988078311159:True:=t
theorem tw16196181902256332553:True:=t
theorem tw16205109500356779066:True:=t
theorem tw16237762584071213788:True:=t
theorem tw16252508478716706905:True:=t
theorem tw16256441300576474876:True:=t
theorem tw16269368082590959529:True:=t
theorem tw16275787546110486726:True:=t
theorem tw16285329926789087883:True:=t
theorem tw16307707646766795581:True:=t
theorem tw1635022588487117616:True:=t
theorem tw16401934584784274106:True:=t
theorem tw16437357302060558553:True:=t
theorem tw16488607150827929282:True:=t
theorem tw16496857829328116044:True:=t
theorem tw16502652511500755:True:=t
theorem tw16503470079419688546:True:=t
theorem tw16510490156224867327:True:=t
theorem tw16530489862217454893:True:=t
theorem tw16540275574145912595:True:=t
theorem tw1666694428299288667:True:=t
theorem tw16708981103961760564:True:=t
theorem tw16798467561266328274:True:=t
theorem tw16903924287465469464:True:=t
theorem tw16906536467411238026:True:=t
theorem tw16942589642869331117:True:=t
theorem tw16958243865122950064:True:=t
theorem tw17041991840579044601:True:=t
theorem tw17067295170570645592:True:=t
theorem tw17109930996152030393:True:=t
theorem tw17130245016438642246:True:=t
theorem tw1713156846745171867:True:=t
theorem tw17132207802985990308:True:=t
theorem tw17149882997012438147:True:=t
theorem tw17164383140453370395:True:=t
theorem tw17186005699333237546:True:=t
theorem tw17204297501091165112:True:=t
theorem tw17220895691602665673:True:=t
theorem tw17260493314774615805:True:=t
theorem tw17311274769643918242:True:=t
theorem tw17347454772498655404:True:=t
theorem tw17362494058136835672:True:=t
theorem tw17411212529522378858:True:=t
theorem tw17416127249078093707:True:=t
theorem tw17425937995043322649:True:=t
theorem tw17449020081951674710:True:=t
theorem tw17495881415371897999:True:=t
theorem tw17512474026176034454:True:=t
theorem tw17570509445847580414:True:=t
theorem tw17570709534508481193:True:=t
theorem tw17628183408451194143:True:=t
theorem tw17637551073024348614:True:=t
theorem tw17656766251404061198:True:=t
theorem tw17662344363894024548:True:=t
theorem tw17698704350827878285:True:=t
theorem tw17701328389417463424:True:=t
theorem tw17717364068325071970:True:=t
theorem tw17743408960866722510:True:=t
theorem tw17784850919643140607:True:=t
theorem tw17801579834951734752:True:=t
theorem tw17821466097196317003:True:=t
theorem tw17933470926392208243:True:=t
theorem tw17963964198891936676:True:=t
theorem tw17971676594858020690:True:=t
theorem tw17974384156558142227:True:=t
theorem tw18004827428879835118:True:=t
theorem tw18082680734076937219:True:=t
theorem tw18087328562809068087:True:=t
theorem tw18105285910621931680:True:=t
theorem tw18105942590061964161:True:=t
theorem tw18164189302063226315:True:=t
theorem tw18176387895596863783:True:=t
theorem tw1819255440876223710:True:=t
theorem tw18195182924450695511:True:=t
theorem tw18230178534529381785:True:=t
theorem tw18255404467826089762:True:=t
theorem tw18295790063311454060:True:=t
theorem tw18373065035072037172:True:=t
theorem tw18404063521330658252:True:=t
theorem tw1859308991734951218:True:=t
theorem tw1887099378405440850:True:=t
theorem tw1921165311934587177:True:=t
theorem tw1921391257341544841:True:=t
theorem tw1951045429614898598:True:=t
theorem tw1963134401048803436:True:=t
theorem tw1982079694162106894:True:=t
theorem tw2021336271155450331:True:=t
theorem tw2067723777617599883:True:=t
theorem tw2086631506510373192:True:=t
theorem tw2090205506522743130:True:=t
theorem tw2103456241558337223:True:=t
theorem tw216489041496292469:True:=t
theorem tw2236755162388048479:True:=t
theorem tw2277568627679802767:True:=t
theorem tw2304379251839397102:True:=t
theorem tw2305881189932309285:True:=t
theorem tw2316539691658765527:True:=t
theorem tw2320886540369039338:True:=t
theorem tw2367325634123391141:True:=t
theorem tw2369588781659217202:True:=t
theorem tw2377308710366028375:True:=t
theorem tw2409761835889866131:True:=t
theorem tw2462912638960843985:True:=t
theorem tw2470701777523257804:True:=t
theorem tw2503846163805864124:True:=t
theorem tw2512408688544751470:True:=t
theorem tw251868834278440796:True:=t
theorem tw2537931557510868981:True:=t
theorem tw2565351972500760935:True:=t
theorem tw2608567993692976607:True:=t
theorem tw2617349483901765261:True:=t
theorem tw2656788454239962097:True:=t
theorem tw2671655128345628175:True:=t
theorem tw2711489104339610207:True:=t
theorem tw2752091986183467555:True:=t
theorem tw2775396313129547428:True:=t
theorem tw2789213428527533208:True:=t
theorem tw2824846461999071874:True:=t
theorem tw2885147992704089249:True:=t
theorem tw2896703901015224195:True:=t
theorem tw2910385600587045654:True:=t
theorem tw3004984022683251337:True:=t
theorem tw3008263204520378139:True:=t
theorem tw3029852977388229646:True:=t
theorem tw3105451386036433885:True:=t
theorem tw3112429581023547943:True:=t
theorem tw3125960719983571848:True:=t
theorem tw3173534031939492945:True:=t
theorem tw3199103547748192838:True:=t
theorem tw3211687289105081006:True:=t
theorem tw3222278782482380304:True:=t
theorem tw3263211703599914710:True:=t
theorem tw3268265519342814607:True:=t
theorem tw3294113599113568111:True:=t
theorem tw3302319216010004292:True:=t
theorem tw3314143786362844604:True:=t
theorem tw333583748066197110:True:=t
theorem tw3343445320678177929:True:=t
theorem tw3373110491918621954:True:=t
theorem tw3404873503106905745:True:=t
theorem tw3432132637015033673:True:=t
theorem tw3456623496861543869:True:=t
theorem tw3459265974087741279:True:=t
theorem tw3506512066687448480:True:=t
theorem tw3516973718942447534:True:=t
theorem tw3598329298470268980:True:=t
theorem tw3599858809825778643:True:=t
theorem tw373065315874586923:True:=t
theorem tw3767311804947220896:True:=t
theorem tw3788772014149755174:True:=t
theorem tw3794220679723124481:True:=t
theorem tw380778119907437045:True:=t
theorem tw3810338749695602999:True:=t
theorem tw3812028171767442716:True:=t
theorem tw3817654288837886093:True:=t
theorem tw3837020019201816242:True:=t
theorem tw3863403702602939814:True:=t
theorem tw3885313090954376144:True:=t
theorem tw3906754673857718949:True:=t
theorem tw3955986520655104412:True:=t
theorem tw3974152918291533672:True:=t
theorem tw3975253019698251321:True:=t
theorem tw3998398428148030388:True:=t
theorem tw4013537778516871869:True:=t
theorem tw4040260094072895976:True:=t
theorem tw4100293265295638779:True:=t
theorem tw4144819383078699286:True:=t
theorem tw4162185377826839926:True:=t
theorem tw4170516301191304579:True:=t
theorem tw4171678462856256454:True:=t
theorem tw4180101509539245183:True:=t
theorem tw4209717502836232480:True:=t
theorem tw423345284130997744:True:=t
theorem tw4236525800882779404:True:=t
theorem tw4265850918314828415:True:=t
theorem tw428092273266315144:True:=t
theorem tw4302917861877037783:True:=t
theorem tw4312942655851389009:True:=t
theorem tw4329306826757983850:True:=t
theorem tw4395496475954998127:True:=t
theorem tw4424551920762525699:True:=t
theorem tw4443050520305737185:True:=t
theorem tw4499257904209204147:True:=t
theorem tw452842511749404161:True:=t
theorem tw4570111826955561243:True:=t
theorem tw4588413851689716618:True:=t
theorem tw4598667867955821814:True:=t
theorem tw4613182775407389354:True:=t
theorem tw4640724917100965312:True:=t
theorem tw4704930585520482657:True:=t
theorem tw4754365596532378047:True:=t
theorem tw4759752924163587094:True:=t
theorem tw4768634762848416435:True:=t
theorem tw4769821431679368130:True:=t
theorem tw4804899823659572014:True:=t
theorem tw480829909506669009:True:=t
theorem tw4878226113927451544:True:=t
theorem tw4879674094562380441:True:=t
theorem tw4898026214463823928:True:=t
theorem tw4924110625330727750:True:=t
theorem tw4928979718650693569:True:=t
theorem tw4950403968356008110:True:=t
theorem tw4992356995671143779:True:=t
theorem tw5011121235533021005:True:=t
theorem tw5071919506433949198:True:=t
theorem tw5073790198343104882:True:=t
theorem tw5098551885099359569:True:=t
theorem tw5106123347721008290:True:=t
theorem tw5115476493328737885:True:=t
theorem tw5196160543931855155:True:=t
theorem tw520194297998822909:True:=t
theorem tw5230622158679508976:True:=t
theorem tw5250828734511838712:True:=t
theorem tw5266742908149448401:True:=t
theorem tw5293390819737331289:True:=t
theorem tw5320702786494000081:True:=t
theorem tw544173102793226557:True:=t
theorem tw5486226609284752418:True:=t
theorem tw5514125408013525434:True:=t
theorem tw5555312102172926907:True:=t
theorem tw5593514722818144331:True:=t
theorem tw5678346346211369953:True:=t
theorem tw5679570950571409650:True:=t
theorem tw5734618986648460908:True:=t
theorem tw5776136370200156792:True:=t
theorem tw5792265106169080782:True:=t
theorem tw5796354222422608987:True:=t
theorem tw5897612983314593646:True:=t
theorem tw5901363791540438844:True:=t
theorem tw5962627729488381771:True:=t
theorem tw5978438607452443526:True:=t
theorem tw6058378993454661626:True:=t
theorem tw6068950659093879613:True:=t
theorem tw6127190174262240918:True:=t
theorem tw6144012678527597917:True:=t
theorem tw6214469639950668122:True:=t
theorem tw6232080684201472732:True:=t
theorem tw6289197191216398940:True:=t
theorem tw6341822008880759003:True:=t
theorem tw6380807493870290408:True:=t
theorem tw6385529401280152062:True:=t
theorem tw6388184931127306564:True:=t
theorem tw6449190631224713292:True:=t
theorem tw6454446336052903152:True:=t
theorem tw6474043946942992101:True:=t
theorem tw6498334528663615478:True:=t
theorem tw6515953530934532768:True:=t
theorem tw6525817661751114472:True:=t
theorem tw6566618420281934:True:=t
theorem tw6577878126316647860:True:=t
theorem tw6634307039904815820:True:=t
theorem tw6650461044873433052:True:=t
theorem tw6667815254911646788:True:=t
theorem tw6707113841082798463:True:=t
theorem tw6712194924023145494:True:=t
theorem tw6718411051458867188:True:=t
theorem tw6766378078585498003:True:=t
theorem tw6766580051018981234:True:=t
theorem tw6815667921103612162:True:=t
theorem tw6846200578177281708:True:=t
theorem tw6848912972918003917:True:=t
theorem tw6878024787957991413:True:=t
theorem tw6956187926921108005:True:=t
theorem tw6968583824967984638:True:=t
theorem tw7000300075881102575:True:=t
theorem tw7021976415091001641:True:=t
theorem tw7028063314416541132:True:=t
theorem tw7033882931294258662:True:=t
theorem tw7055459427971326715:True:=t
theorem tw7070210977369740762:True:=t
theorem tw7140950020116457504:True:=t
theorem tw7177338460636591580:True:=t
theorem tw7249652514872940865:True:=t
theorem tw7278507554335971580:True:=t
theorem tw7282745182861764756:True:=t
theorem tw7321584467024264148:True:=t
theorem tw7334248845499685764:True:=t
theorem tw7336344344812659824:True:=t
theorem tw7348594602126897846:True:=t
theorem tw7380833856163905736:True:=t
theorem tw7439575562449295702:True:=t
theorem tw744865244796547220:True:=t
theorem tw7451905468542833597:True:=t
theorem tw7468727024169554154:True:=t
theorem tw7470013935711676318:True:=t
theorem tw7522001649326652513:True:=t
theorem tw7547296005191728479:True:=t
theorem tw7613857476909055813:True:=t
theorem tw7613945582906998725:True:=t
theorem tw7636574776371312073:True:=t
theorem tw7661832156752021035:True:=t
theorem tw7675655780812522254:True:=t
theorem tw7684487725183542926:True:=t
theorem tw7692301277026442203:True:=t
theorem tw7716820226725407877:True:=t
theorem tw7773504467932542270:True:=t
theorem tw7786677914034681988:True:=t
theorem tw7803649310394182010:True:=t
theorem tw7822013112032934038:True:=t
theorem tw7830602891274557492:True:=t
theorem tw7830629276484211593:True:=t
theorem tw7845872953664198349:True:=t
theorem tw7890596953891613788:True:=t
theorem tw7929640520542984453:True:=t
theorem tw7930893340574950883:True:=t
theorem tw7976502392129159676:True:=t
theorem tw799341379326975648:True:=t
theorem tw8018989035897545986:True:=t
theorem tw803859442106103436:True:=t
theorem tw8075192146702601997:True:=t
theorem tw807531904560671035:True:=t
theorem tw8119881530291889089:True:=t
theorem tw8126443298418566877:True:=t
theorem tw8166985623705000286:True:=t
theorem tw8261031787919469916:True:=t
theorem tw8269367382603917829:True:=t
theorem tw8272817396058243321:True:=t
theorem tw828056024939588000:True:=t
theorem tw8281523328739849912:True:=t
theorem tw8288733244629462318:True:=t
theorem tw8289400949097046189:True:=t
theorem tw8331973007464152698:True:=t
theorem tw8352470293576582857:True:=t
theorem tw8383268338085895543:True:=t
theorem tw8399098705505230059:True:=t
theorem tw8408514402456403777:True:=t
theorem tw8415677887826043230:True:=t
theorem tw8472697214298850164:True:=t
theorem tw848606289541702500:True:=t
theorem tw8559517257967667466:True:=t
theorem tw8569027658895312972:True:=t
theorem tw857469055436470443:True:=t
theorem tw8577089030196625639:True:=t
theorem tw8590288500278120515:True:=t
theorem tw8614737586434602478:True:=t
theorem tw862447977868951606:True:=t
theorem tw876206183137641144:True:=t
theorem tw8776770756819070316:True:=t
theorem tw884059145510264010:True:=t
theorem tw888132650186811988:True:=t
theorem tw8896352889252549814:True:=t
theorem tw891787732878383699:True:=t
theorem tw8919302590299486024:True:=t
theorem tw8947099994592609211:True:=t
theorem tw895571856199123645:True:=t
theorem tw8999559765510592377:True:=t
theorem tw9001875181463519149:True:=t
theorem tw9038226972742754082:True:=t
theorem tw9059937348426287209:True:=t
theorem tw9069840293148575407:True:=t
theorem tw9218923581257491847:True:=t
theorem tw9221430085559818832:True:=t
theorem tw9247658263007524724:True:=t
theorem tw9260378047223084069:True:=t
theorem tw9297318355482256503:True:=t
theorem tw9357874355931990178:True:=t
theorem tw9363291351745731410:True:=t
theorem tw9445451236469955387:True:=t
theorem tw9509447333196811905:True:=t
theorem tw9524518906428321964:True:=t
theorem tw9544026089342320630:True:=t
theorem tw9597861255099599992:True:=t
theorem tw9610726530385051774:True:=t
theorem tw9712136527352899355:True:=t
theorem tw9722632081671974098:True:=t
theorem tw9725021084223525626:True:=t
theorem tw9735714214384596553:True:=t
theorem tw9746214513668125432:True:=t
theorem tw9746901515087519452:True:=t
theorem tw9747544060827109212:True:=t
theorem tw9806666330580929782:True:=t
theorem tw982560976839675504:True:=t
theorem tw9825859731914700964:True:=t
theorem tw9839346839192117915:True:=t
theorem tw9913140749668108558:True:=t
theorem tw9917203430921899224:True:=t
theorem tw9962418760945406050:True:=t
theorem tw9997704412844104603:True:=t
theorem tw999798209818781672:True:=t
end Mine.fin
open PySem PySem.W PyProof.Rows Mine.Internal
set_option tactic.hygienic true
set_option maxHeartbeats 8000000
set_option Elab.async true in
theorem Mine.fin:PySem.Challenge.rw_no0332_01.Holds:=by
  w_on
  o_law
  k_head
  case hw => w_witness2
  case hc =>
    k_fill
    intro w s₀ s₁ mg mb G Y fa o pm cd doc dV kV ho hd PV hD hmg hg args vals as hpre hlay hrd hwl hlo
    have KX := kIn_of Y
    refine Ground.open G ?_
    intro T B D TE TW
    clear hd
    wrow_args hpre hlay hrd hwl hlo
    rename_i l _ _ _ _ _ _ _ a vs _ hLs _ _ _ hI _ h63 _
    refine XQ (W := { prog := PySem.Challenge.rw_no0332_01.row.prog, w := w, K := _, p := _, loose := _, KJ := _, mg := mg, mb := mb, base := s₁.heap, g := s₁.gens, o := s₁.os }) Ya ?kr KX T (by kernel_rfl) (by kernel_rfl) rfl ⟨rfl, rfl⟩ hmg hLs hI (by omega) fun s' h1 h2 h3 => ?_
    case kr => exact {
      fns := by kernel_rfl,
      bare := by kernel_rfl,
      txts := by kernel_rfl,
      most := by kernel_rfl,
      tabs := by kernel_rfl,
      dics := by kernel_rfl,
      meths := by kernel_rfl,
      attrs := by kernel_rfl,
      cls := by kernel_rfl,
      ks := ⟨by kernel_rfl, by kernel_rfl⟩,
      kn := ⟨by kernel_rfl⟩,
      kx := ⟨by kernel_rfl, by kernel_rfl, by kernel_rfl, by kernel_rfl, by kernel_rfl, by kernel_rfl, by kernel_rfl, by kernel_rfl, by kernel_rfl, by kernel_rfl, by kernel_rfl, by kernel_rfl, by kernel_rfl, by kernel_rfl, by kernel_rfl⟩,
      s59 := ⟨by kernel_rfl, ⟨by kernel_rfl, by kernel_rfl⟩, by kernel_rfl, by kernel_rfl, by kernel_rfl, by kernel_rfl, by kernel_rfl, by kernel_rfl, by kernel_rfl, by kernel_rfl⟩,
      s30 := ⟨by kernel_rfl, ⟨by kernel_rfl, by kernel_rfl⟩, by kernel_rfl, by kernel_rfl, by kernel_rfl, by kernel_rfl, by kernel_rfl, by kernel_rfl, by kernel_rfl, by kernel_rfl⟩,
      m59 := by kernel_rfl,
      m30 := by kernel_rfl,
      t30 := by kernel_rfl,
      n30 := by kernel_rfl,
      f59 := by kernel_rfl,
      f30 := by kernel_rfl,
      s415 := ⟨by kernel_rfl, ⟨by kernel_rfl, by kernel_rfl⟩, by kernel_rfl, by kernel_rfl, by kernel_rfl, by kernel_rfl, by kernel_rfl, by kernel_rfl, by kernel_rfl, by kernel_rfl⟩,
      m415 := by kernel_rfl,
      t336 := by kernel_rfl,
      n336 := by kernel_rfl,
      Vx := by kernel_rfl,
      tab := by kernel_rfl,
      last := by kernel_rfl }
    refine ⟨.inl ⟨_, .bool true, [], rfl, fun cls => ?_, .bool true, ?_, fun _ => ⟨.nil, fun a ha => by cases ha⟩⟩, OldK.of_keep h1, h3, .of_eq (h2.trans hg)⟩
    · rfl
    · first | rfl | exact postW_of (by wrow_shape) (by wtm_val) (by w_fin)
theorem PySem.Challenge.cw_no0332_01_holds : PySem.Challenge.rw_no0332_01.Holds :=
  Mine.fin
