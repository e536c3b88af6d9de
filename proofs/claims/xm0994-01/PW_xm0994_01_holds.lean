import PyProof.Rows.All
import Wide.All
import OpenK.AllK
import Wide.FinOn
import KE.KDictOf
import KE.KDictSum
import PySem.Challenge.RW_xm0994_01
set_option tactic.hygienic false
set_option Elab.async false
set_option maxRecDepth 100000
set_option maxHeartbeats 10000000
set_option linter.all false
set_option genSizeOf false
set_option genInjectivity false
open And renaming intro->P5
open Array renaming any_toList->W0,getElem?_eq_some_iff->rn,getElem?_toList->Ge,length_toList->eA,mem_toList_iff->eC,toList_push->rp
open Bool renaming and_eq_true->KH,and_eq_true_iff->TB,and_false->eN,and_true->rq,false->eO,false_and->Nz,false_eq_true->Mc,false_ne_true->Ed,false_or->eP,not_eq_true'->N1,not_eq_true->eQ,or_false->eS,true->TC
open Classical renaming byContradiction->r9,choose->r_,choose_spec->eU,em->eV,not_not->Ao0
open Eq renaming symm->A0
open Exists renaming elim->AI
open False renaming elim->C5
open ForInStep renaming yield->P8
open Function renaming comp_apply->sQ,comp_def->sR
open HAdd renaming hAdd->TP
open HSub renaming hSub->sS
open Iff renaming rfl->N5
open Int renaming add_assoc->sW,add_le_add_right->sX,add_zero->XA,eq_ofNat_of_zero_le->LG,fdiv_nonneg->sY,fmod_lt_of_pos->XB,fmod_nonneg->XC,le_of_eq->ew,le_of_lt->ey,le_refl->FY,le_total->ez,le_trans->KL,lt_iff_le_and_ne->sZ,lt_of_le_of_lt->e9,lt_of_lt_of_le->Mj,max_eq_left->sd,max_eq_right->se,min_eq_left->sf,min_eq_right->sj,mul_add->su,mul_comm->sy,mul_one->s6,natCast_add->s7,natCast_nonneg->P9,neg_one_mul->e_,not_le->N6,not_lt->P_,ofNat->N7,ofNat_inj->s8,ofNat_le->FZ,ofNat_lt->HQ,ofNat_sub->s9,sub_le_self->s_,sub_le_sub_left->XD,sub_lt_sub_left->tA,toNat->KN,toNat_natCast->HR,zero_add->fB,zero_mul->fD
open List renaming all_cons->tI,all_eq_true->Il,all_nil->tJ,any_cons->XH,any_eq_true->tK,append_assoc->tM,append_inj'->tN,append_nil->HS,concat_eq_append->Ml,cons->XI,cons_append->GD,contains_iff_mem->fF,drop_eq_getElem_cons->fG,drop_eq_nil_of_le->tP,drop_of_length_le->tQ,eq_nil_or_concat->QB,filterMap_cons->tR,filter_append->QC,filter_congr->XJ,filter_cons->H2,filter_eq_nil_iff->fH,filter_eq_self->XK,find?_cons->TY,findIdx?->fJ,foldl_append->TZ,foldl_cons->DW,foldl_flatMap->tT,foldl_map->tU,foldl_nil->KO,getD->Ej,getD_eq_getElem?_getD->Mm,getElem?_cons_succ->tV,getElem?_drop->fK,getElem?_eq_getElem->Ee,getElem?_eq_none->fL,getElem?_eq_none_iff->Ta,getElem?_eq_some_iff->tW,getElem?_map->EU,getElem?_set->fN,getElem?_take->XM,getElem_mem->N_,idxOf_lt_length_iff->fP,length->Tb,length_append->Tc,length_cons->KQ,length_drop->Mn,length_eq_zero_iff->tX,length_filter_le->QD,length_map->Fc,length_nil->tY,length_pos_iff->tZ,length_replicate->tc,length_set->fQ,length_take->Mo,lookup->td,lookup_cons->LH,map->XN,map_append->QE,map_congr_left->OA,map_cons->By,map_drop->fR,map_eq_nil_iff->te,map_inj_right->tf,map_map->Fd,map_nil->OB,map_set->Te,map_take->Tf,mem_append->DX,mem_cons->CH,mem_filter->Ez,mem_filterMap->fS,mem_flatMap->JU,mem_map->DJ,mem_of_getElem?->XO,mem_of_mem_drop->XQ,mem_of_mem_take->Tg,mem_or_eq_of_mem_set->XR,mem_range->JV,mem_reverse->QF,mem_singleton->D7,nil_append->Th,nodup_append->XS,nodup_cons->LJ,not_mem_nil->Fe,of_mem_zip->tg,pairwise_append->Ti,pairwise_cons->OC,pairwise_map->th,pairwise_reverse->tj,pairwise_singleton->XU,range->EV,range_succ->tm,range_succ_eq_map->tn,rec->HT,replicate->CD,replicate_succ->tq,reverse_cons->QG,reverse_reverse->tr,set_cons_succ->t4,set_cons_zero->t5,sum_append->t6,sum_cons->XW,take_append_drop->QH,take_length->t7,take_of_length_le->Tj,take_succ->t8,take_succ_cons->fU,take_take->fV
open List.Pairwise renaming filter->Ao3,imp->Ao4,imp_of_mem->tH
open List.cons renaming inj->N9,injEq->Dj
open Max renaming max->To
open Min renaming min->DO
open Nat renaming add_comm->t_,add_zero->uA,ble->Mq,le_antisymm->fX,le_of_ble_eq_true->QJ,le_of_eq->fY,le_of_lt->D3,le_of_succ_le_succ->uD,le_refl->BX,le_succ->Tq,le_total->Tr,le_trans->Ek,le_zero->uE,lt_irrefl->G0,lt_of_add_lt_add_left->Tt,lt_of_le_of_lt->Tu,lt_of_le_of_ne->uF,lt_of_lt_of_le->G1,lt_of_succ_lt->D8,lt_or_ge->Mr,lt_succ_iff->uG,lt_succ_iff_lt_or_eq->LK,lt_succ_of_lt->G2,lt_succ_self->CP,lt_trans->Gf,lt_trichotomy->OD,max_eq_left->uH,max_eq_right->uI,max_lt->uJ,min_eq_left->QK,min_eq_right->fZ,min_le_left->uK,min_le_right->uL,ne_of_gt->fb,ne_of_lt->G3,not_le->uM,not_lt->Ft,not_lt_zero->fc,rec->H3,strongRecOn->uN,sub_zero->ff,succ->uO,succ_ne_zero->uQ,zero_add->uR,zero_le->JX
open Nat.le renaming dest->uB,step->uC
open Nat.succ renaming inj->uP
open Ne renaming symm->HU
open Option renaming bind_eq_some_iff->uS,elim->fh,elim_some->uT,getD_some->fi,isSome->uU,isSome_iff_exists->Ms,map_eq_some_iff->OF,map_some->fj,ne_none_iff_exists'->Tx,none->Tz,some->Im
open Option.some renaming inj->Au,injEq->uV
open Prod renaming ext->XZ
open Prod.mk renaming inj->ft,injEq->fv
open PyProof.Rows renaming IntsAre->XE,MethodCall_->fW,Subscript_->uk,cnt->GH,eq_isInt->iY,gt_int->Ao5,seen->AP,subscriptTail->J0,tail_any->Vx
open PySem renaming Addr->AU,Arguments->Wz,Around->Hx,Builtin->Md,CmpOp->JR,Comprehension->eW,DictEntry->Mg,Env->FX,Heap->BU,IsL->ua,IsRangeIter->XF,ItemsOf->XG,NameKind->JW,Obj->GG,Operator->XX,Params->Fu,Pos->G4,Program->H5,Scope->E4,Sem->EG,Shared->Bq,Stmt->E5,Str->AV,Thread->Xe,Value->Ap,World->CE,allTrue->LR,argBest->QV,ask->ud,assign->G6,assignEach->Iq,assignInOrder->vA,attributeBase->vB,backTo->Dl,behindInMarks->QY,binaryOp->HX,bindArgs->gV,bm_if_false->Xi,bm_if_true->gW,boolOp->M1,bootBuiltins->gY,builtinLookup_eq_fast->Xn,builtinType->UH,builtinType_eq_fast->UI,builtinsNs->UJ,call->fx,callType_codes->gk,callWith->Qc,call_meets->vn,call_meetsIn->vo,cellOf->Xr,cellsFrom->ON,closureFor->wQ,codeAny->GI,codeAny_builtin->hY,codeAny_loop->wY,codeAny_mono->LV,codeAny_of_tree->wZ,compPost->X0,compTurn->M5,compareOp->DZ,comprehension->UO,denote->iH,eval->Ab,evalEach->UT,evalPart->Qn,exec->Cj,exec_Assign_Name_used->iq,execs->Fy,foldedSetIterable->Jf,fresh->Qs,getAttr->Ud,getMethod->YV,getMethod_builtin->yu,getattributeRaised->yv,holding->Jl,importBound->ZJ,importedModules->ZK,intItems->RJ,isSubtype_type->AC7,isTrue->Fv,lastMarks->RT,letOwnedTupleGo->Zk,letTemporaryGo->VE,list_getitem_lookup->AF8,loadName->mI,lookup_relabel_local->mM,mainGlobals->Ea,methodCallForm->AI1,model->A7,noteFrame->VO,numAt->MB,plainId_quiet->aP,preSum->Rz,pyIter->R0,pyNext->PJ,raiseAttrError->AQ6,setItem->oe,sizeLine->Vp,sizeLine_eq->JC,slicePick->PN,slot_dict_getitem->AT7,slot_list_getitem->AT8,slot_list_setitem->AT9,spliced->F7,standAt->JE,starEach->Cr,stored->ue,storedH->PU,swappedStores->PW,swapsWith->HJ,swapsWithSole->pJ,sysModules->Ku,theTreesLotGoes->pQ,theWindowsPlace->AY8,truthy->p_,typeLookup->V4,typeLookup_type->bO,wpAny->Aq,wpAny_Call_NameR->qL,wpAny_Constant_int->bW,wpAny_Dict_empty->Ai9,wpAny_Name->SN,wpAny_askSetting->qM,wpAny_assignInOrder_more->Aj0,wpAny_assign_Name->bX,wpAny_assign_Tuple->Aj1,wpAny_attempt->Aj2,wpAny_bind->Ae,wpAny_call->qN,wpAny_call_entry->Aj3,wpAny_comprehension_free->Aj4,wpAny_getItem_list_slice->Aj5,wpAny_holding->F9,wpAny_isInstance->qO,wpAny_isTrue_Compare1->Aj6,wpAny_list_append_plain->Aj7,wpAny_loadName_cell->Aj8,wpAny_loadName_free->Aj9,wpAny_loadName_local->WB,wpAny_loadPart->Ak0,wpAny_mkText->qP,wpAny_mono->Bz,wpAny_newFunctionEnv->Ak1,wpAny_newObj_type->bY,wpAny_notedAt->Ak2,wpAny_nsGet->qQ,wpAny_of_eq->IX,wpAny_pure->BN,wpAny_pyIter_enum->Ak3,wpAny_pyIter_list->bZ,wpAny_pyIter_listiter->Ak4,wpAny_pyNext_list_end->ba,wpAny_pyNext_list_item->bc,wpAny_rule->bh,wpAny_seqItems->Ak5,wpAny_specialOf->bj,wpAny_standAt->J_,wpAny_storeName_local->qR,wpAny_tests_one->Ak6,wpAny_throw->bo,wpAny_truthy_bool->Pf,wpAny_typeOf->SP
open PySem.Around renaming under_plainId->d_
open PySem.Builtin renaming bitAnd->eT,divisionGoesByPylong->r8
open PySem.Builtin.Dict renaming addKeywords->An2,pairItems->An3,selfAndRest->An4,updateFrom->rt
open PySem.Builtin.Int renaming intBits->Ih
open PySem.Builtin.List renaming listExtendWith->W3,listItems->rx,listLengthHint->An5,listSameRef->An6,listSubscript?->An7,listUpdate->An8
open PySem.Builtin.Range renaming rangeFitsLong->rz,rangeSize->r7,small->An9
open PySem.Calls renaming evalArgs_plain->xj
open PySem.Challenge renaming pw_xm0994_01->Mt,rw_xm0994_01->KU
open PySem.Code renaming builtin->W5,compLoop->sD
open PySem.DictEntry renaming refKey->Ao1
open PySem.Env renaming blockKind->TG
open PySem.Expr renaming Name->TH,pos->eZ
open PySem.F renaming args_dict_get_3->sH,bm_called->ee,bm_plain->sI,bm_sub->sJ,entry_dict_get->sL,plainAttrs_list->ef,slot_dict_get->eh,slot_list_getattribute->W7,slot_list_index->sM,slot_list_pop->sO
open PySem.Flow renaming next->TJ
open PySem.Heap renaming ExtBut->W_,SameBut->JT,get?_push_of_some->DD,get?_push_size->Dx,get?_update_self->W',lt_size->EF,mk->TU,size_push->N4
open PySem.Heap.DictOf renaming new->sU
open PySem.Heap.IsSliceOf renaming new->sV
open PySem.Heap.SameBut renaming refl->Ao2,update->TQ
open PySem.IntMulOk renaming of_left->Ao6
open PySem.IsL renaming update->Ao7
open PySem.IsRange renaming new->tC
open PySem.MeetsSeq renaming list_pop_last->Ao8
open PySem.NameKind renaming cell->Mp,free->Gy
open PySem.Obj renaming mapSeq->OE
open PySem.PyData renaming eqv->uZ,keyHash->QM
open PySem.ScopeKind renaming isAnnotationScope->ui
open PySem.SeqAt renaming shaped->uj
open PySem.Str renaming ofString->CL
open PySem.Value renaming builtin->uu,isInt->QP,none->T9,ref->Ja,str->uv,type->Mx
open PySem.W renaming Frag->Mi,SharedT->LP,absHeap->QR,callWith_of->gn,codeIn->hZ,defOf->OP,dictOf->Iv,emptyDict->OX,fencedOpening->xw,findIn->KZ,gensDone->jd,getL->H',hasDictIn->Q2,instObj->IJ,keepIn->Lw,kms_hi->lh,kms_lo->lj,kqdOk->ZX,kqdP->Kl,kqdPs->ZY,laidKept->l8,lookIn_dict->mK,namesBound->mi,nsIn->Jt,plainGet->Vd,plainGet_of->aO,plainOver->n_,putL->Hm,staticsOk->pA,takerIn->pO,through->bH,typeIs_bytes->uc
open PySem.W.Dat renaming list->ub
open PySem.W.KBw renaming bInts->Fs,pyIter_bytes->tE
open PySem.W.Looks renaming of_pure->t9
open PySem.W.SharedT renaming abs->f7
open PySem.W.WData renaming int->uw
open PySem.W.WShape renaming has->gA,hasAll->ux,hasItems->gB
open PySem.W.WTm renaming holds->gD
open PySem PySem.W PyProof.Rows PySem.Calls
namespace Mine.Internal.H
noncomputable def Nc(tb:String->Option Md)(p:H5)(w:CE)(HF:Nat)(ann:Option Ap):Nat->LP->Xe->Option LP
 |0,_,_=>none
 |n+1,s,t=>match bH t with
  |true=>some s
  |false=>match stepOk HF ann t with
   |false=>none
   |true=>match stepT (iH tb) p w s t with
    |some (s',t')=>Nc tb p w HF ann n s' t'
    |none=>none
theorem pW{tb:String->Option Md}{p:H5}{w:CE}{HF:Nat}{ann:Option Ap}:∀{n:Nat}{s s':LP}{t:Xe},Nc tb p w HF ann n s t=some s'->topRun tb p w HF ann n s.abs t=some s'.abs
 |0,_,_,_,h=>by cases h
 |n+1,s,s',t,h=>by
  unfold Nc at h
  unfold topRun
  cases he:bH t with
  |true=>rw[he]at h;cases h;rfl
  |false=>
   rw[he]at h
   cases hk:stepOk HF ann t with
   |false=>rw[hk]at h;cases h
   |true=>
    rw[hk]at h
    cases hs:stepT (iH tb) p w s t with
    |none=>rw[hs]at h;cases h
    |some r=>obtain⟨A8,Aq0⟩:=r;rw[hs]at h;rw[stepT_spec hs];exact pW h
noncomputable def OK:List GG->BT->Nat->Option (BT×Nat)
 |[],t,n=>some (t,n)
 |o::l,t,n=>match((t.ins n o).get n).isSome with
  |true=>OK l (t.ins n o) (n+1)
  |false=>none
theorem gZ(life:Life):∀(l:List GG)(t:BT)(n:Nat)(t':BT)(n':Nat),OK l t n=some (t',n')->QR t' n' life=⟨(QR t n life).objs++l.toArray,life⟩
 |[],t,n,t',n',h=>by cases h;simp[QR]
 |o::l,t,n,t',n',h=>by
  simp only[OK]at h
  cases hi:((t.ins n o).get n).isSome with
  |false=>rw[hi]at h;cases h
  |true=>
   rw[hi]at h
   rw[gZ life l _ _ _ _ h,absHeap_ins hi]
   simp[Heap.push,QR]
noncomputable def aF(tb:String->Option Md)(p:H5)(w:CE)(N:Nat):Option LP:=
 (xw tb p w N).bind λPY=>match PY with
  |⟨⟨objs,life⟩,gens,drawn,toks,os⟩=>match OK objs.toList .nil 0 with
   |none=>none
   |some (t,n)=>match(TU objs life).isNs Ea&&gens.size==0 with
    |true=>(Nc tb p w objs.size ((TU objs life).nsMap Ea "__annotations__") N ⟨t,n,life,gens,drawn,toks,os⟩ (topStub p)).bind λAJ=>
     match pA (ZK p.main.body) ⟨objs,life⟩ AJ.abs.heap&&mi p AJ.abs.heap&&jd AJ.abs&&l8 ⟨objs,life⟩ AJ.abs.heap with
     |true=>some AJ
     |false=>none
    |false=>none
theorem AO5{tb:String->Option Md}{p:H5}{w:CE}{N:Nat}{s:LP}(h:aF tb p w N=some s):openEnds tb p w N=some s.abs:=by
 obtain⟨⟨⟨objs,life⟩,gens,drawn,toks,os⟩,h1,h2⟩:=uS.mp h
 unfold openEnds
 rw[h1]
 show topFrom tb p w N _=_
 dsimp only at h2
 cases hb:OK objs.toList .nil 0 with
 |none=>rw[hb]at h2;cases h2
 |some r=>
  obtain⟨t,n⟩:=r
  rw[hb]at h2
  dsimp only at h2
  have ha:QR t n life=⟨objs,life⟩:=by
   rw[gZ life _ _ _ _ _ hb];simp[QR,BT.list]
  unfold topFrom
  dsimp only
  cases hn:(TU objs life).isNs Ea&&gens.size==0 with
  |false=>rw[hn]at h2;cases h2
  |true=>
   rw[hn]at h2
   dsimp only at h2|-
   obtain⟨AJ,h3,h4⟩:=uS.mp h2
   obtain h5:=pW h3
   obtain e:(f7 ⟨t,n,life,gens,drawn,toks,os⟩)=⟨⟨objs,life⟩,gens,drawn,toks,os⟩:=by unfold f7;dsimp only;rw[ha]
   rw[e]at h5
   rw[h5]
   show(match pA (ZK p.main.body) ⟨objs,life⟩ AJ.abs.heap&&mi p AJ.abs.heap&&jd AJ.abs&&l8 ⟨objs,life⟩ AJ.abs.heap with|true=>some AJ.abs|false=>none)=_
   split at h4
   ·exact congrArg (Option.map f7) h4
   ·cases h4
noncomputable def fT(i:Nat):Wz×List E5×E4:=match Mt.main.body[i]? with
 |some (.FunctionDef _ a b _ _ _ s _ _ _)=>(a,b,s)
 |_=>default
noncomputable def fM(i j:Nat):Wz×List E5×E4:=match Mt.main.body[i]? with
 |some (.ClassDef _ _ _ l _ _ _ _ _ _ _)=>(match l[j]? with
  |some (.FunctionDef _ a b _ _ _ s _ _ _)=>(a,b,s)
  |_=>default)
 |_=>default
noncomputable abbrev s(x:AV)(t:Nat):Ap:=.str x t
noncomputable abbrev i(x:Int)(t:Nat):Ap:=.int x t
noncomputable abbrev r(a:Nat):Ap:=.ref a
noncomputable abbrev e(P:Fu)(x:AV)(t:Nat)(v:Ap):Mg:=⟨QM P x,.str x t,v⟩
noncomputable abbrev fO(x:Wz×List E5×E4)(nm qn:AV)(d pm:Ap)(c:Nat):GG:=
 ⟨.type "function",none,.func {name:=nm,qualname:=qn,params:=x.1,body:=.stmts x.2.1,scope:=x.2.2,globals:=3,closure:=[],defaults:=d,kwdefaults:=.none,pyModule:=pm,code:=.ref c},#[]⟩
noncomputable abbrev cO(v:Array Ap):GG:=⟨.type "code",none,.fields v,#[]⟩
noncomputable abbrev dO(v:Array Mg)(n:Nat):GG:=⟨.type "dict",none,.dict v n,#[]⟩
noncomputable abbrev kO(c:ClassData)(v:Array (Option Ap)):GG:=⟨.type "type",none,.cls c,v⟩
noncomputable abbrev tO(v:Array Ap):GG:=⟨.type "tuple",none,.seq v 0,#[]⟩
noncomputable def cR(v:List Ap)(A:Nat)(c y:AV)(t u:Nat)(ln ac:Int)(x:Wz×List E5×E4)(d m:Ap)(R:Mi):Mi:=
 (A,cO (s y t::s (c++y) (t+1)::s "/claim/cut.py" (t+2)::i ln 0::i ac 0::i 0 0::i 0 0::i 3 0::(v++[r (A-1),i u 0,i ln 0,s "/claim/cut.py" (u+1)])).toArray)::(A+1,fO x y (c++y) d m A)::R
noncomputable def f(A:Nat):=cR [r (A-5),.bool true,i 181 0,r (A-4),.none,r (A-3),r (A-2)] A
noncomputable def g(A:Nat):=cR [r (A-3),.bool true,i 181 0,r (A-2),.none,.none,.none] A
noncomputable abbrev h(A:Nat)(o:GG)(R:Mi):Mi:=(A,o)::R
noncomputable abbrev n0:Ap:=s "__main__" 164
noncomputable abbrev n1:Ap:=s "threepress.errors" 194
noncomputable abbrev n2:Ap:=s "threepress.parse" 256
noncomputable abbrev n3:Ap:=s "threepress.matches" 636
noncomputable abbrev n4:Ap:=s "law_xm0994_01" 1054
noncomputable def a(P:Fu)(l:List (AV×Nat×Nat)):List Mg:=l.map λx=>e P x.1 x.2.1 (r x.2.2)
noncomputable def c(P:Fu)(A:Nat)(n:AV)(b z:Nat)(S:List Ap)(u y:Nat)(l:Int)(m:Ap)(M:List Mg)(R:Mi):Mi:=
 (A-1,dO (e P "__module__" (u+7) m::e P "__firstlineno__" (u+11) (i l (u+10))::(M++e P "__static_attributes__" y (r (A-2))::bif b==0 then[e P "__dict__" (y+2) (r (A+1)),e P "__weakref__" (y+4) (r (A+2)),e P "__doc__" (y+5) .none]else[e P "__doc__" (y+1) .none])).toArray (bif b==0 then 4 else 2))::
 (A,kO {name:=n,bases:=[bif b==0 then .type "object" else r b],mro:=r A::bif b==0 then[.type "object"]else[r b,.type "object"],ns:=A-1,qualname:=n,subclasses:=S} #[bif b==0 then none else some (r z),none,some (s n u),some (s n (u+8)),some (.builtin "object.__new__"),some (.bool true)])::R
noncomputable def TV(P:Fu):Mi:=
 h 2 (⟨.none,none,.dict #[] 0,#[]⟩)<|
 h 3 (dO ([e P "__name__" 165 n4,e P "__doc__" 166 .none,e P "__package__" 167 .none,e P "__loader__" 168 (.builtin "__main__.__loader__#opaque"),e P "__spec__" 169 .none]++a P [("__annotations__",170,6),("__builtins__",171,4)]++[e P "__file__" 173 (s "/claim/cut.py" 172),e P "__cached__" 174 .none]++a P [("_wall",193,21),("PressError",223,39),("BadDistance",239,52),("BadArgument",255,64)]++[e P "LEAST_MATCH" 259 (i 2 258),e P "MOST_UNIT" 263 (i 1024 262)]++a P [("check_steps",272,73),("check_range",281,80),("step_size",288,87),("Trail",342,123),("Ways",394,158),("least",415,170),("price_of",426,177),("slot_of",434,184),("FlatPrice",485,216),("Counts",525,244),("counts_of",533,255),("need_unit",540,262),("log_units",548,269),("SymbolPrices",584,291),("LearntPrice",635,325)]++[e P "NOWHERE" 640 (i (-1) 639)]++a P [("PlaceRow",702,367),("Matcher",830,458),("Finder",893,501),("TreeFinder",983,549),("LayeredFinder",1039,582),("finder_for",1053,592),("_law_box",1065,599),("_law_take",1074,606),("_law_text",1080,611),("_law_price",1090,618),("_law_told",1106,625),("_law_borders",1124,632),("_law_rungs",1139,639),("_law_edges",1155,646),("_law_costs",1161,651),("_law_reached",1167,656),("_law_part_right",1189,663),("_law_joined_right",1195,668),("law",1201,673)]).toArray 50)<|
 f 72 "" "check_steps" 264 270 17 1 (fT 8) .none n2<|
 f 79 "" "check_range" 273 279 26 3 (fT 9) .none n2<|
 f 86 "" "step_size" 282 286 31 1 (fT 10) .none n2<|
 f 100 "Trail." "__init__" 301 306 35 2 (fM 11 0) .none n2<|
 f 107 "Trail." "up_to" 309 314 40 2 (fM 11 1) .none n2<|
 g 119 "Trail." "every" 326 329 48 3 (fM 11 3) .none n2<|
 c P 123 "Trail" 0 0 [] 289 335 33 n2 (a P [("__init__",308,101),("up_to",316,108),("best",325,115),("every",331,120)])<|
 f 140 "Ways." "__init__" 355 360 53 2 (fM 12 0) .none n2<|
 f 147 "Ways." "offer" 363 372 58 4 (fM 12 1) .none n2<|
 f 154 "Ways." "told" 375 381 67 1 (fM 12 2) .none n2<|
 c P 158 "Ways" 0 0 [] 343 387 51 n2 (a P [("__init__",362,141),("offer",374,148),("told",383,155)])<|
 h 163 (tO #[.none])<|
 f 169 "" "least" 395 413 73 6 (fT 13) (.ref 163) n2<|
 f 176 "" "price_of" 416 424 88 2 (fT 14) .none n2<|
 f 183 "" "slot_of" 427 432 93 1 (fT 15) .none n2<|
 h 192 (tO #[i 0 447])<|
 f 198 "FlatPrice." "__init__" 448 455 100 4 (fM 16 0) (.ref 192) n2<|
 f 205 "FlatPrice." "literal" 458 463 107 2 (fM 16 1) .none n2<|
 f 212 "FlatPrice." "match" 466 472 110 3 (fM 16 2) .none n2<|
 c P 216 "FlatPrice" 0 0 [] 435 478 98 n2 (a P [("__init__",457,199),("literal",465,206),("match",474,213)])<|
 f 233 "Counts." "__init__" 498 502 116 1 (fM 17 0) .none n2<|
 f 240 "Counts." "add" 505 512 121 2 (fM 17 1) .none n2<|
 c P 244 "Counts" 0 0 [] 486 518 114 n2 (a P [("__init__",504,234),("add",514,241)])<|
 f 254 "" "counts_of" 526 531 129 1 (fT 18) .none n2<|
 f 261 "" "need_unit" 534 538 133 1 (fT 19) .none n2<|
 f 268 "" "log_units" 541 546 136 2 (fT 20) .none n2<|
 g 280 "SymbolPrices." "__init__" 561 564 140 3 (fM 21 0) .none n2<|
 f 287 "SymbolPrices." "price" 567 572 147 2 (fM 21 1) .none n2<|
 c P 291 "SymbolPrices" 0 0 [] 549 577 138 n2 (a P [("__init__",566,281),("price",574,288)])<|
 h 303 (tO #[i 16 597])<|
 g 307 "LearntPrice." "__init__" 598 601 151 3 (fM 22 0) (.ref 303) n2<|
 f 314 "LearntPrice." "literal" 604 609 165 2 (fM 22 1) .none n2<|
 f 321 "LearntPrice." "match" 612 622 168 3 (fM 22 2) .none n2<|
 c P 325 "LearntPrice" 0 0 [] 585 628 149 n2 (a P [("__init__",603,308),("literal",611,315),("match",624,322)])<|
 f 342 "PlaceRow." "__init__" 653 659 176 3 (fM 25 0) .none n3<|
 f 349 "PlaceRow." "key" 662 669 184 2 (fM 25 1) .none n3<|
 f 356 "PlaceRow." "put" 672 678 194 2 (fM 25 2) .none n3<|
 f 363 "PlaceRow." "newest" 681 688 200 2 (fM 25 3) .none n3<|
 c P 367 "PlaceRow" 0 0 [] 641 695 174 n3 (a P [("__init__",661,343),("key",671,350),("put",680,357),("newest",690,364)])<|
 f 384 "Matcher." "__init__" 715 723 210 5 (fM 26 0) .none n3<|
 f 391 "Matcher." "put" 726 731 223 2 (fM 26 1) .none n3<|
 f 412 "Matcher." "limit" 750 756 235 3 (fM 26 4) .none n3<|
 f 426 "Matcher." "alike" 769 778 243 5 (fM 26 6) .none n3<|
 f 433 "Matcher." "is_near" 781 787 249 3 (fM 26 7) .none n3<|
 c P 458 "Matcher" 0 0 [r 501,r 549,r 582] 703 823 208 n3 (a P [("__init__",725,385),("put",733,392),("enter",741,399),("put_all",749,406),("limit",758,413),("length",768,420),("alike",780,427),("is_near",789,434),("repeat",799,441),("every",808,448),("best",817,455)])<|
 h 470 (tO #[i 3 843,i 32768 844,i 32 845])<|
 f 476 "Finder." "__init__" 846 854 262 5 (fM 27 0) (.ref 470) n3<|
 f 483 "Finder." "enter" 857 862 266 2 (fM 27 1) .none n3<|
 f 490 "Finder." "candidates" 865 872 269 2 (fM 27 2) .none n3<|
 f 497 "Finder." "every" 875 886 277 3 (fM 27 3) .none n3<|
 c P 501 "Finder" 458 463 [] 831 890 260 n3 (a P [("__init__",856,477),("enter",864,484),("candidates",874,491),("every",888,498)])<|
 h 511 (tO #[i 3 906,i 32768 907,i 32 908])<|
 f 517 "TreeFinder." "__init__" 909 917 291 5 (fM 28 0) (.ref 511) n3<|
 f 524 "TreeFinder." "hang" 920 927 298 4 (fM 28 1) .none n3<|
 f 531 "TreeFinder." "enter" 930 937 304 2 (fM 28 2) .none n3<|
 f 538 "TreeFinder." "part" 940 955 312 3 (fM 28 3) .none n3<|
 f 545 "TreeFinder." "every" 958 973 334 3 (fM 28 4) .none n3<|
 c P 549 "TreeFinder" 458 504 [] 894 980 289 n3 (a P [("__init__",919,518),("hang",929,525),("enter",939,532),("part",957,539),("every",975,546)])<|
 h 559 (tO #[i 2 996,i 3 997])<|
 h 560 (tO #[i 32768 1001,i 32 1002])<|
 g 564 "LayeredFinder." "__init__" 1003 1006 360 4 (fM 29 2) (.ref 560) n3<|
 f 571 "LayeredFinder." "enter" 1009 1015 365 2 (fM 29 3) .none n3<|
 f 578 "LayeredFinder." "every" 1018 1031 370 3 (fM 29 4) .none n3<|
 c P 582 "LayeredFinder" 458 552 [] 984 1036 356 n3 (e P "LAYERS" 998 (r 559)::e P "TREE" 1000 (i 4 999)::a P [("__init__",1008,565),("enter",1017,572),("every",1033,579)])<|
 h 585 (tO #[i 3 1040,i 32768 1041,i 32 1042])<|
 f 591 "" "finder_for" 1043 1051 385 5 (fT 30) (.ref 585) n3<|
 f 598 "" "_law_box" 1056 1063 394 1 (fT 32) .none n4<|
 f 605 "" "_law_take" 1066 1072 402 2 (fT 33) .none n4<|
 g 610 "" "_law_text" 1075 1078 409 2 (fT 34) .none n4<|
 f 617 "" "_law_price" 1081 1088 419 1 (fT 35) .none n4<|
 f 624 "" "_law_told" 1091 1104 427 6 (fT 36) .none n4<|
 f 631 "" "_law_borders" 1107 1122 431 4 (fT 37) .none n4<|
 f 638 "" "_law_rungs" 1125 1137 445 3 (fT 38) .none n4<|
 f 645 "" "_law_edges" 1140 1153 457 4 (fT 39) .none n4<|
 g 650 "" "_law_costs" 1156 1159 466 3 (fT 40) .none n4<|
 g 655 "" "_law_reached" 1162 1165 474 4 (fT 41) .none n4<|
 f 662 "" "_law_part_right" 1168 1187 481 4 (fT 42) .none n4<|
 g 667 "" "_law_joined_right" 1190 1193 494 5 (fT 43) .none n4<|
 g 672 "" "law" 1196 1199 512 1 (fT 44) .none n4<|
 []
noncomputable def ZO:List AU:=[2,3,72,73,79,80,86,87,100,101,107,108,119,120,122,123,140,141,147,148,154,155,157,158,163,169,170,176,177,183,184,192,198,199,205,206,212,213,215,216,233,234,240,241,243,244,254,255,261,262,268,269,280,281,287,288,290,291,303,307,308,314,315,321,322,324,325,342,343,349,350,356,357,363,364,366,367,384,385,391,392,412,413,426,427,433,434,457,458,470,476,477,483,484,490,491,497,498,500,501,511,517,518,524,525,531,532,538,539,545,546,548,549,559,560,564,565,571,572,578,579,581,582,585,591,592,598,599,605,606,610,611,617,618,624,625,631,632,638,639,645,646,650,651,655,656,662,663,667,668,672,673]
noncomputable def QQ:H5:=view Mt [44]
noncomputable def LL:List AV:=(["_wall","PressError","BadDistance","BadArgument","LEAST_MATCH","MOST_UNIT","check_steps","check_range","step_size","Trail","Ways","least","price_of","slot_of","FlatPrice","Counts","counts_of","need_unit","log_units","SymbolPrices","LearntPrice","NOWHERE","PlaceRow","Matcher","Finder","TreeFinder","LayeredFinder","finder_for","_law_box","_law_take","_law_text","_law_price","_law_told","_law_borders","_law_rungs","_law_edges","_law_costs","_law_reached","_law_part_right","_law_joined_right"]:List String).map CL
end Mine.Internal.H
namespace Mine.Internal.H
noncomputable def SH(tb:String->Option Md)(p:H5)(w:CE)(HF:Nat)(ann:Option Ap):Nat->LP->Xe->Option LP
 |0,_,_=>none
 |n+1,s,t=>match bH t with
  |true=>some s
  |false=>match Fast.tw6613529449190102663 HF ann t with
   |false=>none
   |true=>match Fast.tw10156331382660048174 (Fast.tw11892475500146522536 tb) p w s t with
    |some (s',t')=>SH tb p w HF ann n s' t'
    |none=>none
theorem pV{tb:String->Option Md}{p:H5}{w:CE}{HF:Nat}{ann:Option Ap}:∀(n:Nat)(s:LP)(t:Xe),Nc tb p w HF ann n s t=SH tb p w HF ann n s t
 |0,_,_=>rfl
 |n+1,s,t=>by
  unfold Nc SH
  rw[<-Fast.te6613529449190102663,<-Fast.te10156331382660048174,<-Fast.te11892475500146522536]
  cases bH t with
  |true=>rfl
  |false=>
   cases stepOk HF ann t with
   |false=>rfl
   |true=>
    cases stepT (iH tb) p w s t with
    |none=>rfl
    |some r=>exact pV n r.1 r.2
noncomputable def aE(tb:String->Option Md)(p:H5)(w:CE)(N:Nat):Option LP:=
 (xw tb p w N).bind λPY=>match PY with
  |⟨⟨objs,life⟩,gens,drawn,toks,os⟩=>match OK objs.toList .nil 0 with
   |none=>none
   |some (t,n)=>match(TU objs life).isNs Ea&&gens.size==0 with
    |true=>(SH tb p w objs.size (Fast.tw8920871248978507458 (TU objs life) Ea "__annotations__") N ⟨t,n,life,gens,drawn,toks,os⟩ (topStub p)).bind λAJ=>
     match pA (ZK p.main.body) ⟨objs,life⟩ AJ.abs.heap&&mi p AJ.abs.heap&&jd AJ.abs&&l8 ⟨objs,life⟩ AJ.abs.heap with
     |true=>some AJ
     |false=>none
    |false=>none
theorem AO4{tb:String->Option Md}{p:H5}{w:CE}{N:Nat}:aF tb p w N=aE tb p w N:=by
 unfold aF aE
 rw[<-Fast.te8920871248978507458]
 have:@SH=@Nc:=by funext tb p w HF ann n s t;exact(pV n s t).symm
 rw[this]
 all_goals rfl
theorem AD5:∀P,ZO=(TV P).map (·.1):=λZ=>by kernel_rfl
noncomputable abbrev HK:Hook:=kHook TV ZO AD5
noncomputable def XT:Bq->Bool:=λs=>xlAt QQ [] s&&recOk (RowW.records KU.row.toRowW) s
theorem AS5(w:CE):(aE Fast.tw14364793385576792824 Mt w 10506).map (λs=>(openSeen QQ LL (ZK Mt.main.body) XT true s.abs,ZO.map s.abs.heap.get?))=some (openGood QQ LL,(TV w.params).map λp=>some p.2):=by kernel_rfl
end Mine.Internal.H
namespace Mine.Internal.H
theorem AS7:KU.wellSaid=true:=by
 rw[Fast.te9446332074065402090]
 kernel_rfl
theorem left:LeftO Mt QQ LL XT HK.obs HK.val 10506:=λw=>by
 obtain h:=AS5 w
 rw[<-Fast.te14364793385576792824,<-AO4]at h
 obtain⟨s,h1,h2⟩:=OF.mp h
 rw[AO5 h1]
 exact congrArg some h2
theorem promised:KU.row.toRowW.promised:=by w_witness2
theorem hd{d:DefRec}{NP:List (AV×Expr)}(Yn:OP QQ "law"=some (d,NP))(hp:Mt.theDef "law"=some (d.params,d.body,d.scope))
 (hk:kwWritten? d.params.kwonlyargs d.params.kw_defaults=some NP)
 (call:WalkO QQ LL (XL QQ []) HK.says KU.row.toRowW d NP λf vs=>fx f vs):KU.Holds:=
 holds_law AS7 λAS8=>holds_open (q:=QQ) (loose:=LL) (Xt:=XT) (XP:=XL QQ []) (Yf:=HK.obs) (Ya:=HK.val) (YP:=HK.says) (N:=10506) left HK.of HK.keeps
  (λs e=>xl_of s (TB.mp e).1) XL.keeps Yn hp hk (λs e=>recFacts_of (TB.mp e).2) (by rfl) AS8 (by kernel_rfl)
  ⟨rfl,rfl,rfl,rfl,rfl,by decide+kernel⟩ promised call
end Mine.Internal.H
namespace Mine.Internal
namespace L
noncomputable def Fj{α:Type}(d:α)(l:List α):Nat->α:=HT (λZ=>d) (λx Z ih i=>H3 x (λi Z=>ih i) i) l
noncomputable abbrev PO:=List Int
noncomputable def E(p:List Nat)(q:List Int)(j:Nat):Int:=H3 1 (λj Z=>bif j%2==0 then((Fj 0 p (j/2):Nat):Int)else Fj 0 q (j/2)) j
noncomputable def pe(p:List Nat)(q:List Int)(j:Nat)(l:PO):Int:=HT (motive:=λZ=>Nat->Int) (λZ=>0) (λc Z ih j=>c*E p q j+ih (j+1)) l j
noncomputable def NV(l r:PO):PO:=HT (motive:=λZ=>PO->PO) (λr=>r) (λx Z ih r=>(x+r.headD 0)::ih r.tail) l r
noncomputable def Jw(k:Int)(l:PO):PO:=l.map (k*·)
noncomputable def E9(l r:PO):PO:=NV l (Jw (-1) r)
noncomputable def unit(i:Nat):PO:=H3 [1] (λZ ih=>0::ih) i
noncomputable abbrev Br:=List (List PO×PO)
noncomputable def MD(f:PO->PO->Br)(x y:Br):Br:=x.flatMap λa=>y.flatMap λb=>(f a.2 b.2).map λr=>(a.1++b.1++r.1,r.2)
noncomputable def one(f:PO->Br)(x:Br):Br:=x.flatMap λa=>(f a.2).map λr=>(a.1++r.1,r.2)
noncomputable def two(f:PO->PO->List (List PO))(x y:Br):List (List PO):=x.flatMap λa=>y.flatMap λb=>(f a.2 b.2).map λr=>a.1++b.1++r
noncomputable def both(x y:List (List PO)):List (List PO):=x.flatMap λa=>y.map λb=>a++b
noncomputable def m1(l:PO):PO:=NV l [-1]
noncomputable def comb(ns:List Nat)(ls:List PO):PO:=HT (motive:=λZ=>List PO->PO) (λZ=>[]) (λn Z ih ls=>HT [] (λl ls Z=>NV (Jw (n:Nat) l) (ih ls)) ls) ns ls
noncomputable def neg(l:PO):Bool:=HT false (λc r Z=>decide (c<0)&&r.all (·==0)) l
noncomputable def nats(n:Nat)(j:Nat):List PO:=H3 (motive:=λZ=>Nat->List PO) (λZ=>[]) (λZ ih j=>unit (2*j+1)::ih (j+1)) n j
noncomputable def hM(n:Nat)(ls:List (List PO))(cs:List (List Nat)):Bool:=
 HT (motive:=λZ=>List (List Nat)->Bool) (λZ=>true) (λl Z ih cs=>HT false (λc cs Z=>neg (comb c (l++nats n 0))&&ih cs) cs) ls cs
section
variable{p:List Nat}{q:List Int}
theorem i4(a b c d:Int):(a+b)+(c+d)=(a+c)+(b+d):=((sW a b _).trans (congrArg (a+·) (Int.add_left_comm b c d))).trans (sW a c _).symm
theorem AP9(r)(j):pe p q j r=r.headD 0*E p q j+pe p q (j+1) r.tail:=by
 cases r with
 |nil=>exact((XA _).trans (fD _)).symm
 |cons x r=>rfl
theorem VY(l:PO):∀r j,pe p q j (NV l r)=pe p q j l+pe p q j r:=by
 induction l with
 |nil=>exact λr j=>(fB _).symm
 |cons x l ih=>exact λr j=>((congr (congrArg TP (Int.add_mul x (r.headD 0) (E p q j))) (ih r.tail (j+1))).trans (i4 ..)).trans (congrArg (pe p q j (x::l)+·) (AP9 r j).symm)
theorem VZ(k)(l):∀j,pe p q j (Jw k l)=k*pe p q j l:=by
 induction l with
 |nil=>exact λj=>(Int.mul_zero k).symm
 |cons x l ih=>exact λj=>(congr (congrArg TP (Int.mul_assoc k x (E p q j))) (ih (j+1))).trans (su ..).symm
theorem VW(l r):pe p q 0 (E9 l r)=pe p q 0 l-pe p q 0 r:=(VY l _ 0).trans (congrArg (pe p q 0 l+·) ((VZ (-1) r 0).trans (e_ _)))
theorem ny(i):∀j,pe p q j (unit i)=E p q (j+i):=by
 induction i with
 |zero=>exact λj=>(XA _).trans (Int.one_mul _)
 |succ i ih=>exact λj=>((congr (congrArg TP (fD (E p q j))) (ih (j+1))).trans (fB _)).trans (congrArg (E p q) (Nat.succ_add_eq_add_succ j i))
theorem nh(i):pe p q 0 (unit (2*i+1))=(Fj 0 p i:Nat):=by
 refine(ny _ 0).trans ((congrArg (E p q) (uR _)).trans ?_);show cond (2*i%2==0) ((Fj 0 p (2*i/2):Nat):Int) _=_;rw[Nat.mul_mod_right,Nat.mul_div_cancel_left i (uC .refl)];rfl
theorem AP4(i):pe p q 0 (unit (2*i+2))=Fj 0 q i:=by
 refine(ny _ 0).trans ((congrArg (E p q) (uR _)).trans ?_);show cond ((2*i+1)%2==0) _ (Fj 0 q ((2*i+1)/2))=_;rw[Nat.mul_add_mod,Nat.mul_add_div (uC .refl)];rfl
def Al(p:List Nat)(q:List Int)(l:List PO):Prop:=∀x∈l,0<=pe p q 0 x
theorem Al.app(a:Al p q l)(b:Al p q r):Al p q (l++r):=λx h=>(DX.mp h).elim (a x) (b x)
theorem UA:Al p q []:=λZ h=>nomatch h
theorem My(h:0<=pe p q 0 l):Al p q [l]:=λZ hx=>List.eq_of_mem_singleton hx▸h
def Ok(p:List Nat)(q:List Int)(b:Br)(i:Int):Prop:=∃x∈b,Al p q x.1/\pe p q 0 x.2=i
theorem Ok.pair(hx:Ok p q x i)(hy:Ok p q y j)(h:∀a c,pe p q 0 a=i->pe p q 0 c=j->Ok p q (f a c) k):Ok p q (MD f x y) k:=
 hx.elim λa ha=>hy.elim λb hb=>(h _ _ ha.2.2 hb.2.2).elim λc hc=>⟨_,JU.mpr ⟨a,ha.1,JU.mpr ⟨b,hb.1,DJ.mpr ⟨c,hc.1,rfl⟩⟩⟩,(ha.2.1.app hb.2.1).app hc.2.1,hc.2.2⟩
theorem Ok.one(hx:Ok p q x i)(h:∀a,pe p q 0 a=i->Ok p q (f a) k):Ok p q (one f x) k:=
 hx.elim λa ha=>(h _ ha.2.2).elim λc hc=>⟨_,JU.mpr ⟨a,ha.1,DJ.mpr ⟨c,hc.1,rfl⟩⟩,ha.2.1.app hc.2.1,hc.2.2⟩
theorem Ok.IK(h:pe p q 0 l=i):Ok p q [([],l)] i:=⟨_,.head _,UA,h⟩
theorem Ok.fst{r:Br}{i:Int}(hc:0<=pe p q 0 c)(h:pe p q 0 l=i):Ok p q (([c],l)::r) i:=⟨_,.head _,My hc,h⟩
theorem Ok.snd(hc:0<=pe p q 0 c)(h:pe p q 0 l=i):Ok p q [a,([c],l)] i:=⟨_,.tail _ (.head _),My hc,h⟩
theorem Ok.to(h:Ok p q b i)(e:i=j):Ok p q b j:=e▸h
theorem Jv(hl:pe p q 0 l=i)(hr:pe p q 0 r=j)(h:i<=j):0<=pe p q 0 (E9 r l):=(VW r l)▸hl.symm▸hr.symm▸Int.sub_nonneg_of_le h
theorem VV(hl:pe p q 0 l=i)(hr:pe p q 0 r=j)(h:i<j):0<=pe p q 0 (m1 (E9 r l)):=
 ((VY (E9 r l) [-1] 0).trans (congrArg (·+_) (VW r l)))▸hl.symm▸hr.symm▸Int.le_sub_one_of_lt (Int.sub_pos_of_lt h)
noncomputable abbrev NI:=Nat×Int
noncomputable abbrev SV:=Br×Br
def GT(p:List Nat)(q:List Int)(r:NI)(s:SV):Prop:=Ok p q s.1 (r.1:Nat)/\Ok p q s.2 r.2
noncomputable abbrev b0:Br:=[([],[])]
noncomputable def sv(c:Nat):SV:=([([],unit (2*(c%16)+1))],b0)
noncomputable def sz(c:Nat):SV:=(b0,[([],unit (2*(c%16)+2))])
noncomputable def sk(n:Nat):SV:=([([],[(n:Int)])],[([],[(n:Int)])])
noncomputable def sa(x y:SV):SV:=(MD (λa c=>[([],NV a c)]) x.1 y.1,MD (λa c=>[([],NV a c)]) x.2 y.2)
noncomputable def ss(x y:SV):SV:=(MD (λa c=>[([E9 a c],E9 a c),([E9 c a],[])]) x.1 y.1,MD (λa c=>[([],E9 a c)]) x.2 y.2)
noncomputable def sg(x:SV):SV:=(b0,one (λa=>[([],Jw (-1) a)]) x.2)
noncomputable def sm(n:Nat)(x:SV):SV:=(one (λa=>[([],Jw n a)]) x.1,one (λa=>[([],Jw n a)]) x.2)
noncomputable def sc(x:SV):SV:=(b0,x.1)
noncomputable def st(x:SV):SV:=(one (λa=>[([a],a),([Jw (-1) a],[])]) x.2,b0)
noncomputable def Xl(x y:Br):Br:=MD (λa c=>[([E9 c a],a),([E9 a c],c)]) x y
noncomputable def Xj(x y:Br):Br:=MD (λa c=>[([E9 c a],c),([E9 a c],a)]) x y
noncomputable def sn(x y:SV):SV:=(Xl x.1 y.1,Xl x.2 y.2)
noncomputable def sx(x y:SV):SV:=(Xj x.1 y.1,Xj x.2 y.2)
theorem ni:pe p q 0 []=N7 0:=rfl
theorem ng:pe p q 0 [i]=i:=(XA _).trans (s6 _)
theorem nT(hx:Ok p q x i)(hy:Ok p q y j):Ok p q (MD (λa c=>[([],NV a c)]) x y) (i+j):=hx.pair hy λa c ha hc=>.IK ((VY a c 0).trans (congr (congrArg TP ha) hc))
theorem Rt(hx:Ok p q x i):Ok p q (one (λa=>[([],Jw n a)]) x) (n*i):=hx.one λa ha=>.IK ((VZ n a 0).trans (congrArg _ ha))
theorem nV(hx:Ok p q x i)(hy:Ok p q y j):Ok p q (Xl x y) (min i j):=
 hx.pair hy λa c ha hc=>(ez i j).elim (λh=>.fst (Jv ha hc h) (ha.trans (sf h).symm)) λh=>.snd (Jv hc ha h) (hc.trans (sj h).symm)
theorem nU(hx:Ok p q x i)(hy:Ok p q y j):Ok p q (Xj x y) (max i j):=
 hx.pair hy λa c ha hc=>(ez i j).elim (λh=>.fst (Jv ha hc h) (hc.trans (se h).symm)) λh=>.snd (Jv hc ha h) (ha.trans (sd h).symm)
theorem AX6(c):GT p q (Fj 0 p (c%16),0) (sv c):=⟨.IK (nh _),.IK rfl⟩
theorem AY3(c):GT p q (0,Fj 0 q (c%16)) (sz c):=⟨.IK rfl,.IK (AP4 _)⟩
theorem aZ(n):GT p q (n,(n:Int)) (sk n):=⟨.IK ng,.IK ng⟩
section
variable{x y:NI}{u v:SV}
theorem AS6(hx:GT p q x u)(hy:GT p q y v):GT p q (x.1+y.1,x.2+y.2) (sa u v):=⟨nT hx.1 hy.1,nT hx.2 hy.2⟩
theorem AV3(hx:GT p q x u)(hy:GT p q y v):GT p q (x.1-y.1,x.2-y.2) (ss u v):=
 ⟨hx.1.pair hy.1 λa c ha hc=>(Tr y.1 x.1).elim (λh=>.fst (Jv hc ha (FZ.mpr h)) (((VW a c).trans (congr (congrArg sS ha) hc)).trans (s9 h).symm))
  λh=>.snd (Jv ha hc (FZ.mpr h)) ((ni (p:=p) (q:=q)).trans (congrArg N7 (Nat.sub_eq_zero_of_le h)).symm),
  hx.2.pair hy.2 λa c ha hc=>.IK ((VW a c).trans (congr (congrArg sS ha) hc))⟩
theorem AT2(hx:GT p q x u):GT p q (0,-x.2) (sg u):=⟨.IK rfl,(Rt hx.2).to (e_ _)⟩
theorem AU0(n)(hx:GT p q x u):GT p q (n*x.1,(n:Int)*x.2) (sm n u):=⟨Rt hx.1,Rt hx.2⟩
theorem AV1(n)(hx:GT p q x u):GT p q (x.1*n,x.2*(n:Int)) (sm n u):=⟨(Rt hx.1).to (sy _ _),(Rt hx.2).to (sy _ _)⟩
theorem AS9(hx:GT p q x u):GT p q (0,(x.1:Int)) (sc u):=⟨.IK rfl,hx.1⟩
theorem az(hx:GT p q x u):GT p q (x.2.toNat,0) (st u):=
 ⟨Ok.one (f:=λa=>[([a],a),([Jw (-1) a],[])]) hx.2 λa ha=>(ez 0 x.2).elim (λh=>.fst (ha.symm▸h) (ha.trans (Int.toNat_of_nonneg h).symm))
  λh=>.snd ((VZ (-1) a 0).trans (e_ _)▸ha.symm▸Int.neg_nonneg_of_nonpos h) ((ni (p:=p) (q:=q)).trans (congrArg N7 (Int.toNat_of_nonpos h)).symm),.IK rfl⟩
theorem AU1(hx:GT p q x u)(hy:GT p q y v):GT p q (min x.1 y.1,min x.2 y.2) (sn u v):=
 ⟨(nV hx.1 hy.1).to ((Tr x.1 y.1).elim (λh=>(sf (FZ.mpr h)).trans (congrArg N7 (QK h).symm)) λh=>(sj (FZ.mpr h)).trans (congrArg N7 (fZ h).symm)),nV hx.2 hy.2⟩
theorem AY1(hx:GT p q x u)(hy:GT p q y v):GT p q (max x.1 y.1,max x.2 y.2) (sx u v):=
 ⟨(nU hx.1 hy.1).to ((Tr x.1 y.1).elim (λh=>(se (FZ.mpr h)).trans (congrArg N7 (uI h).symm)) λh=>(sd (FZ.mpr h)).trans (congrArg N7 (uH h).symm)),nU hx.2 hy.2⟩
end
def Any(p:List Nat)(q:List Int)(l:List (List PO)):Prop:=∃x∈l,Al p q x
theorem Any.l{l r}(h:Any p q l):Any p q (l++r):=h.elim λx h=>⟨x,DX.mpr (.inl h.1),h.2⟩
theorem Any.r{l r}(h:Any p q r):Any p q (l++r):=h.elim λx h=>⟨x,DX.mpr (.inr h.1),h.2⟩
theorem Any.both{l r}(h:Any p q l)(g:Any p q r):Any p q (both l r):=h.elim λx h=>g.elim λy g=>⟨_,JU.mpr ⟨x,h.1,DJ.mpr ⟨y,g.1,rfl⟩⟩,h.2.app g.2⟩
theorem Any.two(hx:Ok p q x i)(hy:Ok p q y j)(h:∀a c,pe p q 0 a=i->pe p q 0 c=j->Any p q (f a c)):Any p q (two f x y):=
 hx.elim λa ha=>hy.elim λb hb=>(h _ _ ha.2.2 hb.2.2).elim λc hc=>⟨_,JU.mpr ⟨a,ha.1,JU.mpr ⟨b,hb.1,DJ.mpr ⟨c,hc.1,rfl⟩⟩⟩,(ha.2.1.app hb.2.1).app hc.2⟩
theorem QU(h:0<=pe p q 0 l):Any p q ([l]::r):=⟨_,.head _,My h⟩
noncomputable abbrev FV:=List (List PO)×List (List PO)
def GF(p:List Nat)(q:List Int)(P:Prop)(r:FV):Prop:=(P->Any p q r.1)/\(¬P->Any p q r.2)
noncomputable def YA(x y:Br):FV:=(two (λa c=>[[E9 c a]]) x y,two (λa c=>[[m1 (E9 a c)]]) x y)
noncomputable def YB(x y:Br):FV:=(two (λa c=>[[m1 (E9 c a)]]) x y,two (λa c=>[[E9 a c]]) x y)
noncomputable def X'(x y:Br):FV:=(two (λa c=>[[E9 c a,E9 a c]]) x y,two (λa c=>[[m1 (E9 a c)],[m1 (E9 c a)]]) x y)
noncomputable def ir(f g:FV):FV:=(both f.1 g.1,f.2++g.2)
noncomputable def fo(f g:FV):FV:=(f.1++g.1,both f.2 g.2)
noncomputable def ix(f g:FV):FV:=(f.2++g.1,both f.1 g.2)
section
variable{P Q:Prop}{x y:Br}{i j:Int}{f g:FV}
theorem i5(hx:Ok p q x i)(hy:Ok p q y j)(e:P↔i<=j):GF p q P (YA x y):=
 ⟨λh=>.two hx hy λa c ha hc=>QU (Jv ha hc (e.mp h)),λh=>.two hx hy λa c ha hc=>QU (VV hc ha (N6.mp λz=>h (e.mpr z)))⟩
theorem i6(hx:Ok p q x i)(hy:Ok p q y j)(e:P↔i<j):GF p q P (YB x y):=
 ⟨λh=>.two hx hy λa c ha hc=>QU (VV ha hc (e.mp h)),λh=>.two hx hy λa c ha hc=>QU (Jv hc ha (P_.mp λz=>h (e.mpr z)))⟩
theorem iu(hx:Ok p q x i)(hy:Ok p q y j)(e:P↔i=j):GF p q P (X' x y):=
 ⟨λh=>.two hx hy λa c ha hc=>⟨_,.head _,.app (My (Jv ha hc (ew (e.mp h)))) (My (Jv hc ha (ew (e.mp h).symm)))⟩,
  λh=>.two hx hy λa c ha hc=>(Int.lt_or_gt_of_ne λz=>h (e.mpr z)).elim (λz=>⟨_,.tail _ (.head _),My (VV ha hc z)⟩) λz=>QU (VV hc ha z)⟩
theorem yI(hf:GF p q P f):GF p q (¬P) (f.2,f.1):=⟨λh=>hf.2 h,λh=>hf.1 (Ao0.mp h)⟩
theorem xp(hf:GF p q P f)(hg:GF p q Q g):GF p q (P/\Q) (ir f g):=
 ⟨λh=>(hf.1 h.1).both (hg.1 h.2),λh=>(eV P).elim (λz=>(hg.2 λy=>h ⟨z,y⟩).r) λz=>(hf.2 z).l⟩
theorem yK(hf:GF p q P f)(hg:GF p q Q g):GF p q (P\/Q) (fo f g):=
 ⟨λh=>h.elim (λh=>(hf.1 h).l) λh=>(hg.1 h).r,λh=>(hf.2 λz=>h (.inl z)).both (hg.2 λz=>h (.inr z))⟩
theorem xy(hf:GF p q P f)(hg:GF p q Q g):GF p q (P->Q) (ix f g):=
 ⟨λh=>(eV P).elim (λz=>(hg.1 (h z)).r) λz=>(hf.2 z).l,λh=>(hf.1 (r9 λz=>h λy=>absurd y z)).both (hg.2 λz=>h λZ=>z)⟩
theorem xx:GF p q False ([],[[]]):=⟨λh=>h.elim,λZ=>⟨_,.head _,UA⟩⟩
theorem jJ:GF p q True ([[]],[]):=⟨λZ=>⟨_,.head _,UA⟩,λh=>(h trivial).elim⟩
end
theorem AI6(n):∀j,Al p q (nats n j):=by
 induction n with
 |zero=>exact λZ=>UA
 |succ n ih=>exact λj=>.app (My (A0 (nh j)▸P9 _)) (ih (j+1))
theorem Al.tl(h:Al p q (l::ls)):Al p q ls:=λx hx=>h x (.tail _ hx)
theorem wa(ns):∀ls,Al p q ls->0<=pe p q 0 (comb ns ls):=by
 induction ns with
 |nil=>exact λZ Z=>FY 0
 |cons n ns ih=>
  intro ls h;cases ls with
  |nil=>exact FY 0
  |cons l ls=>exact A0 ((VY (Jw n l) (comb ns ls) 0).trans (congrArg (·+_) (VZ n l 0)))▸Int.add_nonneg (Int.mul_nonneg (P9 n) (h l (.head _))) (ih ls h.tl)
theorem AQ0(l):∀j,l.all (·==0)=true->pe p q j l=0:=by
 induction l with
 |nil=>exact λZ Z=>rfl
 |cons x l ih=>exact λj h=>have h:=(TB.mp h);(congr (congrArg TP ((congrArg (·*E p q j) (eq_of_beq h.1)).trans (fD _))) (ih (j+1) h.2))
theorem AJ4(l)(h:neg l=true):pe p q 0 l<0:=by
 cases l with
 |nil=>exact nomatch h
 |cons c r=>
  have h:=TB.mp h;exact e9 (ew (show pe p q 0 (c::r)=c from(congrArg (c*1+·) (AQ0 r 1 h.2)).trans ((XA _).trans (s6 c)))) (of_decide_eq_true h.1)
theorem wI(ls):∀cs,hM n ls cs=true->¬Any p q ls:=by
 induction ls with
 |nil=>exact λZ Z z=>z.elim λZ z=>nomatch z.1
 |cons l ls ih=>
  intro cs h z;cases cs with
  |nil=>exact nomatch h
  |cons c cs=>
   have h:=TB.mp h;exact z.elim λx z=>(CH.mp z.1).elim (λe=>absurd (wa c _ ((e▸z.2).app (AI6 n 0))) (N6.mpr (AJ4 _ h.1))) λm=>ih cs h.2 ⟨x,m,z.2⟩
theorem nP{α β:Type}{P:α->β->Prop}{d:α}{d':β}(hd:P d d')(l:List (α×β)):(∀x∈l,P x.1 x.2)->∀i,P (Fj d (l.map (·.1)) i) (Fj d' (l.map (·.2)) i):=by
 induction l with
 |nil=>exact λZ Z=>hd
 |cons x l ih=>
  intro h i;cases i with
  |zero=>exact h x (.head _)
  |succ i=>exact ih (λy hy=>h y (.tail _ hy)) i
end
noncomputable def dN(f:Nat):Nat->Nat×Nat:=H3 (λc=>(0,c)) (λZ ih c=>bif c%16==15 then((ih (c/256)).1*16+c/16%16,(ih (c/256)).2)else(c%16,c/16)) f
noncomputable def kT(f:Nat):Nat->Nat:=H3 (λc=>c) (λZ s c=>Fj (λc=>c) [λc=>c/16,λc=>c/16,λc=>(dN 30 c).2,λc=>s (s c),λc=>s (s c),s,λc=>s (dN 30 c).2,λc=>s (dN 30 c).2,s,s,λc=>s (s c),λc=>s (s c)] (c%16) (c/16)) f
noncomputable def k2(c:Nat):Nat:=kT 30 (kT 30 c)
noncomputable def kF(f:Nat):Nat->Nat:=H3 (λc=>c) (λZ s c=>Fj (λc=>c) [k2,k2,k2,k2,k2,k2,s,λc=>s (s c),λc=>s (s c),λc=>s (s c)] (c%16) (c/16)) f
noncomputable abbrev TO:=(Nat->NI)->Nat->NI
noncomputable abbrev SO:=(Nat->SV)->Nat->SV
noncomputable def pX(p:List Nat)(q:List Int):List TO:=[λZ c=>(Fj 0 p (c%16),0),λZ c=>(0,Fj 0 q (c%16)),λZ c=>((dN 30 c).1,((dN 30 c).1:Int)),λr c=>((r c).1+(r (kT 30 c)).1,(r c).2+(r (kT 30 c)).2),
 λr c=>((r c).1-(r (kT 30 c)).1,(r c).2-(r (kT 30 c)).2),λr c=>(0,-(r c).2),λr c=>((dN 30 c).1*(r (dN 30 c).2).1,((dN 30 c).1:Int)*(r (dN 30 c).2).2),λr c=>((r (dN 30 c).2).1*(dN 30 c).1,(r (dN 30 c).2).2*((dN 30 c).1:Int)),
 λr c=>(0,((r c).1:Int)),λr c=>((r c).2.toNat,0),λr c=>(min (r c).1 (r (kT 30 c)).1,min (r c).2 (r (kT 30 c)).2),λr c=>(max (r c).1 (r (kT 30 c)).1,max (r c).2 (r (kT 30 c)).2)]
noncomputable def ox:List SO:=[λZ=>sv,λZ=>sz,λZ c=>sk (dN 30 c).1,λr c=>sa (r c) (r (kT 30 c)),λr c=>ss (r c) (r (kT 30 c)),λr c=>sg (r c),λr c=>sm (dN 30 c).1 (r (dN 30 c).2),λr c=>sm (dN 30 c).1 (r (dN 30 c).2),
 λr c=>sc (r c),λr c=>st (r c),λr c=>sn (r c) (r (kT 30 c)),λr c=>sx (r c) (r (kT 30 c))]
noncomputable def dT(p:List Nat)(q:List Int)(f:Nat):Nat->NI:=H3 (λZ=>(0,0)) (λZ r c=>Fj (λZ Z=>(0,0)) (pX p q) (c%16) r (c/16)) f
noncomputable def sT(f:Nat):Nat->SV:=H3 (λZ=>sk 0) (λZ r c=>Fj (λZ Z=>sk 0) ox (c%16) r (c/16)) f
noncomputable abbrev FO:=(Nat->Prop)->Nat->Prop
noncomputable abbrev GO:=(Nat->FV)->Nat->FV
noncomputable def ot(u:NI->NI->Prop)(p:List Nat)(q:List Int):FO:=λZ c=>u (dT p q 30 c) (dT p q 30 (kT 30 c))
noncomputable def os(u:SV->SV->FV):GO:=λZ c=>u (sT 30 c) (sT 30 (kT 30 c))
noncomputable def jA(p:List Nat)(q:List Int):List FO:=[ot (λx y=>x.1<=y.1) p q,ot (λx y=>x.2<=y.2) p q,ot (λx y=>x.1<y.1) p q,ot (λx y=>x.2<y.2) p q,ot (λx y=>x.1=y.1) p q,ot (λx y=>x.2=y.2) p q,
 λr c=>¬r c,λr c=>r c/\r (kF 30 c),λr c=>r c\/r (kF 30 c),λr c=>r c->r (kF 30 c),λZ Z=>False]
noncomputable def jn:List GO:=[os λx y=>YA x.1 y.1,os λx y=>YA x.2 y.2,os λx y=>YB x.1 y.1,os λx y=>YB x.2 y.2,os λx y=>X' x.1 y.1,os λx y=>X' x.2 y.2,
 λr c=>((r c).2,(r c).1),λr c=>ir (r c) (r (kF 30 c)),λr c=>fo (r c) (r (kF 30 c)),λr c=>ix (r c) (r (kF 30 c)),λZ Z=>([],[[]])]
def dF(p:List Nat)(q:List Int)(f:Nat):Nat->Prop:=H3 (λZ=>True) (λZ r c=>Fj (λZ Z=>True) (jA p q) (c%16) r (c/16)) f
noncomputable def sF(f:Nat):Nat->FV:=H3 (λZ=>([[]],[])) (λZ r c=>Fj (λZ Z=>([[]],[])) jn (c%16) r (c/16)) f
section
variable{p:List Nat}{q:List Int}
def uo(p:List Nat)(q:List Int)(o:TO)(o':SO):Prop:=∀r r',(∀c,GT p q (r c) (r' c))->∀c,GT p q (o r c) (o' r' c)
def sP(p:List Nat)(q:List Int)(o:FO)(o':GO):Prop:=∀r r',(∀c,GF p q (r c) (r' c))->∀c,GF p q (o r c) (o' r' c)
theorem ac{α β:Type}{P:α->β->Prop}{a:α}{b:β}{l:List (α×β)}(h:P a b)(t:∀y∈l,P y.1 y.2):∀y∈(a,b)::l,P y.1 y.2:=λy m=>(CH.mp m).elim (λe=>e▸h) (t y)
theorem an{α β:Type}{P:α->β->Prop}:∀y∈([]:List (α×β)),P y.1 y.2:=λZ m=>absurd m Fe
theorem H8(f:Nat):∀c,GT p q (dT p q f c) (sT f c):=by
 induction f with
 |zero=>exact λZ=>aZ 0
 |succ f ih=>exact λc=>nP (P:=uo p q) (λZ Z Z Z=>aZ 0) ((pX p q).zip ox) (ac (λZ Z Z Z=>AX6 _)<|ac (λZ Z Z Z=>AY3 _)<|ac (λZ Z Z Z=>aZ _)<|ac (λZ Z R Z=>AS6 (R _) (R _))<|ac (λZ Z R Z=>AV3 (R _) (R _))<|
  ac (λZ Z R Z=>AT2 (R _))<|ac (λZ Z R Z=>AU0 _ (R _))<|ac (λZ Z R Z=>AV1 _ (R _))<|ac (λZ Z R Z=>AS9 (R _))<|ac (λZ Z R Z=>az (R _))<|ac (λZ Z R Z=>AU1 (R _) (R _))<|ac (λZ Z R Z=>AY1 (R _) (R _)) an) _ _ _ ih _
theorem wt(f:Nat):∀c,GF p q (dF p q f c) (sF f c):=by
 induction f with
 |zero=>exact λZ=>jJ
 |succ f ih=>exact λc=>nP (P:=sP p q) (λZ Z Z Z=>jJ) ((jA p q).zip jn) (ac (λZ Z Z Z=>i5 (H8 30 _).1 (H8 30 _).1 FZ.symm)<|ac (λZ Z Z Z=>i5 (H8 30 _).2 (H8 30 _).2 N5)<|ac (λZ Z Z Z=>i6 (H8 30 _).1 (H8 30 _).1 HQ.symm)<|
  ac (λZ Z Z Z=>i6 (H8 30 _).2 (H8 30 _).2 N5)<|ac (λZ Z Z Z=>iu (H8 30 _).1 (H8 30 _).1 s8.symm)<|ac (λZ Z Z Z=>iu (H8 30 _).2 (H8 30 _).2 N5)<|
  ac (λZ Z R Z=>yI (R _))<|ac (λZ Z R Z=>xp (R _) (R _))<|ac (λZ Z R Z=>yK (R _) (R _))<|ac (λZ Z R Z=>xy (R _) (R _))<|ac (λZ Z Z Z=>xx) an) _ _ _ ih _
end
noncomputable def dL(n:Nat):Nat->List Nat×Nat:=H3 (λc=>([],c)) (λZ ih c=>((dN 30 c).1::(ih (dN 30 c).2).1,(ih (dN 30 c).2).2)) n
noncomputable def dC(f:Nat):Nat->List (List Nat):=H3 (λZ=>[]) (λZ ih c=>bif c==0 then[]else(dL (c%16) (c/16)).1::ih (dL (c%16) (c/16)).2) f
noncomputable def ck(n c:Nat):Bool:=hM n (sF 30 c).2 (dC 60 (kF 30 c))
abbrev dd(p:List Nat)(q:List Int)(c:Nat):Prop:=dF p q 30 c
theorem DG(c)(p)(q)(h:ck p.length c=true):dd p q c:=
 r9 λz=>wI _ _ h ((wt 30 c).2 z)
end L
theorem EJ(c)(h:L.ck 0 c=true):L.dd [] [] c:=L.DG c _ _ h
theorem Aw(c)(h:L.ck 0 c=true):L.dd [] [b0] c:=L.DG c _ _ h
theorem Bd(c)(h:L.ck 0 c=true):L.dd [] [b0,b1] c:=L.DG c _ _ h
theorem DR(c)(h:L.ck 0 c=true):L.dd [] [b0,b1,b2] c:=L.DG c _ _ h
theorem IL(c)(h:L.ck 0 c=true):L.dd [] [b0,b1,b2,b3] c:=L.DG c _ _ h
theorem Lx(c)(h:L.ck 0 c=true):L.dd [] [b0,b1,b2,b3,b4] c:=L.DG c _ _ h
theorem l06(c)(h:L.ck 0 c=true):L.dd [] [b0,b1,b2,b3,b4,b5] c:=L.DG c _ _ h
theorem Za(c)(h:L.ck 0 c=true):L.dd [] [b0,b1,b2,b3,b4,b5,b6] c:=L.DG c _ _ h
theorem Ah(c)(h:L.ck 1 c=true):L.dd [a0] [] c:=L.DG c _ _ h
theorem Bp(c)(h:L.ck 1 c=true):L.dd [a0] [b0] c:=L.DG c _ _ h
theorem Dv(c)(h:L.ck 1 c=true):L.dd [a0] [b0,b1] c:=L.DG c _ _ h
theorem RQ(c)(h:L.ck 1 c=true):L.dd [a0] [b0,b1,b2] c:=L.DG c _ _ h
theorem AM(c)(h:L.ck 2 c=true):L.dd [a0,a1] [] c:=L.DG c _ _ h
theorem Bm(c)(h:L.ck 2 c=true):L.dd [a0,a1] [b0] c:=L.DG c _ _ h
theorem D0(c)(h:L.ck 2 c=true):L.dd [a0,a1] [b0,b1] c:=L.DG c _ _ h
theorem O7(c)(h:L.ck 2 c=true):L.dd [a0,a1] [b0,b1,b2] c:=L.DG c _ _ h
theorem l24(c)(h:L.ck 2 c=true):L.dd [a0,a1] [b0,b1,b2,b3] c:=L.DG c _ _ h
theorem l25(c)(h:L.ck 2 c=true):L.dd [a0,a1] [b0,b1,b2,b3,b4] c:=L.DG c _ _ h
theorem AQ(c)(h:L.ck 3 c=true):L.dd [a0,a1,a2] [] c:=L.DG c _ _ h
theorem Cn(c)(h:L.ck 3 c=true):L.dd [a0,a1,a2] [b0] c:=L.DG c _ _ h
theorem Jo(c)(h:L.ck 3 c=true):L.dd [a0,a1,a2] [b0,b1] c:=L.DG c _ _ h
theorem VD(c)(h:L.ck 3 c=true):L.dd [a0,a1,a2] [b0,b1,b2] c:=L.DG c _ _ h
theorem l35(c)(h:L.ck 3 c=true):L.dd [a0,a1,a2] [b0,b1,b2,b3,b4] c:=L.DG c _ _ h
theorem CM(c)(h:L.ck 4 c=true):L.dd [a0,a1,a2,a3] [] c:=L.DG c _ _ h
theorem Ly(c)(h:L.ck 4 c=true):L.dd [a0,a1,a2,a3] [b0] c:=L.DG c _ _ h
theorem l6(c)(h:L.ck 4 c=true):L.dd [a0,a1,a2,a3] [b0,b1] c:=L.DG c _ _ h
theorem Lz(c)(h:L.ck 5 c=true):L.dd [a0,a1,a2,a3,a4] [] c:=L.DG c _ _ h
theorem Zb(c)(h:L.ck 5 c=true):L.dd [a0,a1,a2,a3,a4] [b0] c:=L.DG c _ _ h
theorem l7(c)(h:L.ck 5 c=true):L.dd [a0,a1,a2,a3,a4] [b0,b1] c:=L.DG c _ _ h
theorem Zc(c)(h:L.ck 6 c=true):L.dd [a0,a1,a2,a3,a4,a5] [] c:=L.DG c _ _ h
theorem l61(c)(h:L.ck 6 c=true):L.dd [a0,a1,a2,a3,a4,a5] [b0] c:=L.DG c _ _ h
theorem l62(c)(h:L.ck 6 c=true):L.dd [a0,a1,a2,a3,a4,a5] [b0,b1] c:=L.DG c _ _ h
theorem l70(c)(h:L.ck 7 c=true):L.dd [a0,a1,a2,a3,a4,a5,a6] [] c:=L.DG c _ _ h
def Ci{a b}:=@AM a b 80891351508386318385961 rfl
def DH{a b}:=@AM a b 4821358488846377 rfl
def EP{a}:=@Ah a 347415278868588655906402967093257 rfl
def ER{a}:=@Ah a 4596989985 rfl
def FT{a}:=@Ah a 73551843923 rfl
def HP{a b}:=@AM a b 19748865114318569481 rfl
def Ia{a b}:=@AM a b 1285387659650040619599961 rfl
def Ib{a b}:=@AM a b 19748865114352123945 rfl
def Ic{a}:=@Ah a 1357265171870752701140226408457 rfl
def Ie{a}:=@Ah a 73316446210 rfl
def JP{a b}:=@AM a b 5196184049580846848984003574431808 rfl
def KC{a b}:=@AM a b 1234267773153052729 rfl
def LA{a}:=@Aw a 4820328249365017 rfl
def LB{a}:=@Ah a 5301817077620127738123911177 rfl
def MU{a b}:=@AM a b 80891351508248879432489 rfl
def MW{a b}:=@AM a b 1234276571168112681 rfl
def MX{a b c}:=@Dv a b c 24634044164984120628867359444692303057603538738297852281 rfl
def MY{a b c d}:=@Cn a b c d 1607331895651083553615043098824935963185456358107601894907945 rfl
def MZ{a b}:=@Bp a b 19432556672380252124619129 rfl
def Ma{a b c}:=@Bm a b c 88294402084417182271615682540998697 rfl
def Mb{a}:=@Ah a 80871106971343957062225 rfl
def Np{a b}:=@AM a b 19748284507772420873 rfl
def Nq{a b}:=@AM a b 347420758782086116571720271823764 rfl
def Nt{a b}:=@AM a b 4806036192505889 rfl
def Nu{a b c}:=@Bm a b c 127812686431783688638138251125198160235610836444418185931159734437704648811299317566413129 rfl
def Nv{a}:=@Ah a 287309856 rfl
def Nx{a}:=@Aw a 4821367648268833 rfl
def Pr{a}:=@Aw a 77126347842978329 rfl
def Pt{a b c}:=@Bm a b c 2064599821677350188660561603148191236658890958854266105530209471090470850365173530665 rfl
def Pu{a}:=@Ah a 80890127956668803261719 rfl
def Pw{a b}:=@Bp a b 5039424409238960669209 rfl
def Px{a b c}:=@Bm a b c 123580455031039594629805312350639206960362082412083052409261424776653795627017 rfl
def Py{a}:=@Ah a 18833969000737 rfl
def Pz{a b c}:=@AQ a b c 1290109940881159925800969 rfl
def P0{a b c}:=@AQ a b c 340367087828978981448743681610385261321 rfl
def P4{a b c d}:=@CM a b c d 6607731616522234797013505430946520423216739901767120850173034505 rfl
def Sl{a b}:=@AM a b 1234267781742987321 rfl
def Sm{a b}:=@AM a b 19748284370333467401 rfl
def Sn{a b}:=@AM a b 19748284370868437033 rfl
def So{a b}:=@AM a b 24852687685642619029532973546663147772822200389641 rfl
def Sp{a b c}:=@AQ a b c 88655843494285340990041808194110249 rfl
def Sq{a}:=@Aw a 17829905 rfl
def Sr{a b c}:=@AQ a b c 21644493040594629423944045887497 rfl
def Ss{a b}:=@Bp a b 5788871383798464709027855212523109228921 rfl
def Su{a}:=@Aw a 6419001161841874493392831060868310097800673279213881 rfl
def Sv{a}:=@Ah a 331330686615136315431252561 rfl
def Sy:=@EJ 0x11020ff4f2f4f0f251 rfl
def Sz:=@EJ 0x110ff4f2f4f0f2021 rfl
def WT{a}:=@Ah a 5828742951398961098047057815715139682313 rfl
def WU{a b}:=@AM a b 19748865114352123913 rfl
def WV{a}:=@Aw a 77143940029026841 rfl
def WW{a}:=@Ah a 21716242749932043356023653793801 rfl
def WX{a}:=@Ah a 315902771511140872785 rfl
def WY{a b}:=@Bp a b 19672850180631691609 rfl
def WZ{a b}:=@Bp a b 1481951074607360584660864849444797747831161 rfl
def Wa{a b}:=@AM a b 4539961088950304 rfl
def Wb{a b c}:=@Dv a b c 9216690249584097166930275738508580404129811391214881656187987074989885846396366330833474398442095021019513 rfl
def Wc{a b}:=@AM a b 1234276571134558249 rfl
def Wd{a b}:=@AM a b 19748304158035279913 rfl
def We{a b}:=@AM a b 361804461564214129103308343062515679241 rfl
def Wf{a b c d}:=@Cn a b c d 1486439820089083106462466711965005665996873 rfl
def Wg{a b}:=@AM a b 1234276571134558217 rfl
def Wh{a b c}:=@AQ a b c 397530251720151600861890172709104373188683650699273 rfl
def Wi{a}:=@Ah a 19676543446381758517 rfl
def Wj{a}:=@Aw a 1236803252478091801 rfl
def Wk{a}:=@Ah a 1357090933080424437133681491977 rfl
def Wl{a b c}:=@AQ a b c 1352778925357317899312978468873 rfl
def Wm{a b c d}:=@Cn a b c d 1418471947396249709948899197362144281 rfl
def Wo{a b c}:=@AQ a b c 1290109940318209435508745 rfl
def Wq{a b c}:=@AQ a b c 1290109940318209972379657 rfl
def Wr{a b c}:=@AQ a b c 80889117740422416826409 rfl
def Ws{a b}:=@AM a b 345043948889378246856056154292265 rfl
def Wt{a b c}:=@AQ a b c 1290109940300754689458185 rfl
def Wu{a b c}:=@AQ a b c 1289519788591367581598516 rfl
def dG{a b c}:=@AQ a b c 88655843494285340995052979136503817 rfl
def dH{a}:=@Aw a 26244385041304653487006720198632797919659801798451986969 rfl
def dJ{a b}:=@Bp a b 1798332305494690002958018337822274871874281706947220109458319868217 rfl
def dK{a b c d}:=@D0 a b c d 27065260716801540230679539940402729324643337732263362655051335139865 rfl
def dM{a b c}:=@Bm a b c 573383406212741390552327883604754662501538847220915820988285472743504878626912702692889688350953219037513 rfl
def dP{a}:=@Aw a 326029153629949456510566011306329 rfl
def dQ{a b c}:=@Bm a b c 397642983396930533414138366383926860590066817830921 rfl
def dR{a b c}:=@Bm a b c 235877389470218614773615034222051198225388706548033935269681502455166742976499030972402697941366376900823715180882601311292885038108461715051930105904649495927442116649 rfl
def dS{a b c d}:=@D0 a b c d 4583678250998079248615038834099873766830557604493526047656781154634706219743129954803536384639108690249871386551835561802059953256663094666809366496570209574609361997336510304434024473915707769 rfl
def dU{a b c d}:=@Cn a b c d 361571128941549900962454118416861108825 rfl
def dW{a b c d e}:=@Jo a b c d e 2037533307178089213617305290000148011180834118671960465766417035736044920190381316089387609 rfl
def dX{a b c}:=@AQ a b c 6089867113329323304626277846055902546838560777 rfl
def dY{a b}:=@AM a b 1798332305494690002958018337822274871874281703684484033072591933449 rfl
def dZ{a b c}:=@AQ a b c 84494318944819347013517905993 rfl
def dc{a}:=@Aw a 29780732368635598787185537975469951957837824956952091289736485180232383365972505 rfl
def de{a}:=@Aw a 6419001161841874493392831060868310097800673278165305 rfl
def df{a b c}:=@AQ a b c 1357402462057660673481212168249 rfl
def dg{a b}:=@Bd a b 84239165663982751656178680089 rfl
def dh{a}:=@Ah a 5301817077620127738073579529 rfl
def dj{a b}:=@AM a b 1359917033019929669747264717577 rfl
def dk{a b c}:=@AQ a b c 20287698210210107095095974101769 rfl
def dq{a}:=@Ah a 80943123798845633462281 rfl
def du{a}:=@Ah a 5301817077620127738140688393 rfl
def dw{a}:=@Ah a 1357090933080424437133698269193 rfl
def dy{a b}:=@AM a b 21357235281056329515826466790591041545 rfl
def dz{a b}:=@AM a b 19424497602453055324950537 rfl
def cy{a}:=@Ah a 80890139479263129110676 rfl
def cz{a b c}:=@AQ a b c 310788678138260703587344393 rfl
def c6{a b}:=@AM a b 84239165662825043972892655625 rfl
def c7{a b c}:=@Bm a b c 364213997890825619908233948051132662809 rfl
def c8{a b c}:=@AQ a b c 1290109940863704642879529 rfl
def c9{a b}:=@AM a b 80891351528036581244937 rfl
def c_{a b c}:=@Bm a b c 1359878420000452292994306146585 rfl
def dA{a b}:=@AM a b 83463463345601671329695467599560713 rfl
def dB{a b c}:=@AQ a b c 80888973361420267684649 rfl
def dE{a b c d e}:=@Lz a b c d e 31495476597750056528637085997580642449563280286954834189909201443550000844914697 rfl
def qp{a}:=@Ah a 6408770650380558172965405267119299710419033136431113 rfl
def qq{a b c}:=@AQ a b c 6732175929619621072487496891179230714665723958333125169161 rfl
def qr{a b c}:=@AQ a b c 437189567876331857332205371041067711334646488746684952025760585 rfl
def qt{a b c d}:=@CM a b c d 105313999471009905707736515384466018178325456134899605336642162697 rfl
def qu{a}:=@Aw a 118220952014671270243132194510409728717467921038538309054469358457323833 rfl
def qv{a b}:=@AM a b 7388710488030352926385752635180167626963410086175208781043128858642489 rfl
def qw{a}:=@Aw a 23401510248336814028904965368098081920820285997460 rfl
def qy{a b}:=@AM a b 1533641375655908073812086985207530179512786847577147557 rfl
def qz{a b c d}:=@Cn a b c d 8867345650290316956500227058802723446060129408905857718772052086414327946623122433749078380553 rfl
def q6{a b c d}:=@D0 a b c d 25830690575824628024675120708918082121409919703018421204701561 rfl
def q7{a b c}:=@Dv a b c 1853134685822832236590392648141770480629434828232441033096021131170995789517177 rfl
def q8{a b c}:=@Bm a b c 1707372252720791226614788343130467431365498685041503735126345 rfl
def q9{a b c d e f}:=@l6 a b c d e f 482356162338129681442269242217287222600268273319489528903937598776171108953 rfl
def q_{a b c d e}:=@Ly a b c d e 1634270227796196390607327571089800815738566648853961305 rfl
def rA{a b c}:=@AQ a b c 111920529376340955477044574986513334180897588076055783736239719241 rfl
def rB{a b c d}:=@Cn a b c d 1532869779505786697768885267354507433041382685297283145 rfl
def rC{a b c}:=@Dv a b c 393875674874495603027223249572518058252510126852683661353 rfl
def rD{a b c d}:=@D0 a b c d 105730202669345013732405733039803870847350784191061472888276193641 rfl
def rE{a b}:=@AM a b 5986430974427956713390409210522141944503512533632073 rfl
def rF{a b c}:=@AQ a b c 127812686429901599081837680700536013512107929491210096749986531493080026803424806611977289 rfl
def rG{a b}:=@Bd a b 2764444757782750178145141019533734612599108570639082264596829859103728439199444848562282521485787910060678516125600911673 rfl
def rH{a b c}:=@Dv a b c 499268306374022513336397772262032060198883298999643622684880325858906248798722175617353 rfl
def rI{a b c d}:=@CM a b c d 36993793577754822714105375122794046147652205621406736362998184281861272329 rfl
def rJ{a}:=@Aw a 6408770650380558172965405267039296116663081751413017 rfl
def rK{a b}:=@Bd a b 1715023332113924029310243928739809867738992411512587548758297 rfl
def rL{a}:=@Aw a 454418317738976694236748023570141137133745738346879188386230659811456849289 rfl
def rM{a}:=@Aw a 420675660142469086798992576405065570569464923880510587161 rfl
def rO{a b c}:=@Dv a b c 141843533666158441672425032104803232457011157742785547466768234977881245570163593293126121431417 rfl
def rQ{a b c}:=@Dv a b c 141843533666158441672425032104803232457011157742785547466766905749885460654290689486065841021305 rfl
def rR{a b c}:=@Bm a b c 65847565389148447394858970682730885417916734816967809045635269385 rfl
def rS{a b}:=@AM a b 1798332305494690002958018337822274871874281703684520060744799227913 rfl
def rT{a b}:=@AM a b 7024735568338632824054759132118261218258912905017515890940448777 rfl
def rU{a b c}:=@AQ a b c 1884729530697951484256948857545526141461310459752783699589785401741680649 rfl
def rV{a b c d}:=@CM a b c d 100458632961642819883949127160408923847957715592178219352073 rfl
def rW{a}:=@Ah a 95852585977187590262394738147729743547969071088698516 rfl
def rX{a b c}:=@AQ a b c 6009723634559286473162866515077760557432096864993353 rfl
def rY{a b c d e f}:=@VD a b c d e f 8454533437857534985090794092797626380373085544921423940876250139189548320952515561521273 rfl
def rZ{a b c}:=@AQ a b c 163499297238050661177170106729750268732680491287348250801993467395221302435028989570431285163852624250396963094665517858566427329414338432208315270789952403704539369922959859424190276339418688497962542922370742289424076649035816999574122394474853725970845926420607597687596114843770223720577105929 rfl
def rd{a b c d}:=@Cn a b c d 3773963789433484503946918556557606710142380158545298622035727203208126358840469013412726224320490901514667511135289818937145446252055921210390666585189459905636900798473 rfl
theorem Cp{G:Prop}(h:∀P:Prop,(G->P)->P):G:=h G id
section
variable{A B C D E F H I J K:Type}{G a b c d e f g h i j:Prop}
theorem Ao{P:A->B->Prop}(z:∃a b,P a b)(k:∀a b,P a b->G):G:=z.elim λx z=>z.elim (k x)
theorem Aj{P:A->B->Prop}(a b)(z:P a b):∃a b,P a b:=⟨a,b,z⟩
theorem A1{P:A->B->C->Prop}(z:∃a b c,P a b c)(k:∀a b c,P a b c->G):G:=z.elim λx z=>Ao z (k x)
theorem BK{P:A->B->C->Prop}(a b c)(z:P a b c):∃a b c,P a b c:=⟨a,b,c,z⟩
theorem Bc{P:A->B->C->D->Prop}(z:∃a b c d,P a b c d)(k:∀a b c d,P a b c d->G):G:=z.elim λx z=>A1 z (k x)
theorem Ar{P:A->B->C->D->Prop}(a b c d)(z:P a b c d):∃a b c d,P a b c d:=⟨a,b,c,d,z⟩
theorem GK{P:A->B->C->D->E->Prop}(z:∃a b c d e,P a b c d e)(k:∀a b c d e,P a b c d e->G):G:=z.elim λx z=>Bc z (k x)
theorem D_{P:A->B->C->D->E->Prop}(a b c d e)(z:P a b c d e):∃a b c d e,P a b c d e:=⟨a,b,c,d,e,z⟩
theorem OZ{P:A->B->C->D->E->F->Prop}(z:∃a b c d e f,P a b c d e f)(k:∀a b c d e f,P a b c d e f->G):G:=z.elim λx z=>GK z (k x)
theorem Qo{P:A->B->C->D->E->F->Prop}(a b c d e f)(z:P a b c d e f):∃a b c d e f,P a b c d e f:=⟨a,b,c,d,e,f,z⟩
theorem LY{P:A->B->C->D->E->F->H->Prop}(z:∃a b c d e f g,P a b c d e f g)(k:∀a b c d e f g,P a b c d e f g->G):G:=z.elim λx z=>OZ z (k x)
theorem Gi{P:A->B->C->D->E->F->H->Prop}(a b c d e f g)(z:P a b c d e f g):∃a b c d e f g,P a b c d e f g:=⟨a,b,c,d,e,f,g,z⟩
theorem iZ{P:A->B->C->D->E->F->H->I->Prop}(z:∃a b c d e f g h,P a b c d e f g h)(k:∀a b c d e f g h,P a b c d e f g h->G):G:=z.elim λx z=>LY z (k x)
theorem ip{P:A->B->C->D->E->F->H->I->Prop}(a b c d e f g h)(z:P a b c d e f g h):∃a b c d e f g h,P a b c d e f g h:=⟨a,b,c,d,e,f,g,h,z⟩
theorem xm{P:A->B->C->D->E->F->H->I->J->Prop}(z:∃a b c d e f g h i,P a b c d e f g h i)(k:∀a b c d e f g h i,P a b c d e f g h i->G):G:=z.elim λx z=>iZ z (k x)
theorem xk{P:A->B->C->D->E->F->H->I->J->K->Prop}(z:∃a b c d e f g h i j,P a b c d e f g h i j)(k:∀a b c d e f g h i j,P a b c d e f g h i j->G):G:=z.elim λx z=>xm z (k x)
theorem X_{P:A->B->C->D->E->F->H->I->J->K->Prop}(a b c d e f g h i j)(z:P a b c d e f g h i j):∃a b c d e f g h i j,P a b c d e f g h i j:=⟨a,b,c,d,e,f,g,h,i,j,z⟩
theorem BQ(z:a/\b)(k:a->b->G):G:=k z.1 z.2
theorem HW(q:a)(r:b):a/\b:=⟨q,r⟩
theorem DF(z:a/\b/\c)(k:a->b->c->G):G:=BQ z.2 (k z.1)
theorem AO(q:a)(r:b)(s:c):a/\b/\c:=⟨q,r,s⟩
theorem G5(z:a/\b/\c/\d)(k:a->b->c->d->G):G:=DF z.2 (k z.1)
theorem BR(q:a)(r:b)(s:c)(t:d):a/\b/\c/\d:=⟨q,r,s,t⟩
theorem Cu(z:a/\b/\c/\d/\e)(k:a->b->c->d->e->G):G:=G5 z.2 (k z.1)
theorem An(q:a)(r:b)(s:c)(t:d)(u:e):a/\b/\c/\d/\e:=⟨q,r,s,t,u⟩
theorem Em(z:a/\b/\c/\d/\e/\f)(k:a->b->c->d->e->f->G):G:=Cu z.2 (k z.1)
theorem Cc(q:a)(r:b)(s:c)(t:d)(u:e)(v:f):a/\b/\c/\d/\e/\f:=⟨q,r,s,t,u,v⟩
theorem En(z:a/\b/\c/\d/\e/\f/\g)(k:a->b->c->d->e->f->g->G):G:=Em z.2 (k z.1)
theorem Dz(q:a)(r:b)(s:c)(t:d)(u:e)(v:f)(w:g):a/\b/\c/\d/\e/\f/\g:=⟨q,r,s,t,u,v,w⟩
theorem QS(z:a/\b/\c/\d/\e/\f/\g/\h)(k:a->b->c->d->e->f->g->h->G):G:=En z.2 (k z.1)
theorem Ip(q:a)(r:b)(s:c)(t:d)(u:e)(v:f)(w:g)(x:h):a/\b/\c/\d/\e/\f/\g/\h:=⟨q,r,s,t,u,v,w,x⟩
theorem QT(z:a/\b/\c/\d/\e/\f/\g/\h/\i)(k:a->b->c->d->e->f->g->h->i->G):G:=QS z.2 (k z.1)
theorem UB(q:a)(r:b)(s:c)(t:d)(u:e)(v:f)(w:g)(x:h)(y:i):a/\b/\c/\d/\e/\f/\g/\h/\i:=⟨q,r,s,t,u,v,w,x,y⟩
theorem gN(z:a/\b/\c/\d/\e/\f/\g/\h/\i/\j)(k:a->b->c->d->e->f->g->h->i->j->G):G:=QT z.2 (k z.1)
theorem OI(q:a)(r:b)(s:c)(t:d)(u:e)(v:f)(w:g)(x:h)(y:i)(z:j):a/\b/\c/\d/\e/\f/\g/\h/\i/\j:=⟨q,r,s,t,u,v,w,x,y,z⟩
end
theorem nS{α:Type}{x:α}{G:Prop}(h:none=some x):G:=nomatch h
theorem sN{α:Type}{x:α}{G:Prop}(h:some x=none):G:=nomatch h
theorem nC{α:Type}{x:α}{l:List α}{G:Prop}(h:[]=x::l):G:=nomatch h
theorem cN{α:Type}{x:α}{l:List α}{G:Prop}(h:x::l=[]):G:=nomatch h
theorem tF{G:Prop}(h:true=false):G:=nomatch h
theorem fT{G:Prop}(h:false=true):G:=nomatch h
@[elab_as_elim]theorem AD{α:Sort u}{b}{motive:α->Prop}{a:α}(h:a=b)(k:motive b):motive a:=h▸k
theorem AG{α:Sort u}{a b c:α}(h:a=b)(k:b=c):a=c:=h.trans k
end Mine.Internal
set_option genCtorIdx false
namespace Mine.Internal
noncomputable abbrev BJ:H5:=KU.row.prog
noncomputable abbrev KK(P:Fu):Mi:=H.TV P
inductive MV where
 |none|bool (b:Bool)|int (i:Int)|str (s:AV)|bytes (l:List Int)
 |tup (l:List MV)|lst (l:List MV)
 |di (l:List (Int×Int))
 |dp (l:List ((Int×Int)×Int))
 |ins (c:AU) (ks:List AV) (vs:List MV)
 |D2 (lo hi:Int)
 |ref (a:AU)
noncomputable abbrev ik(w):PySem.KeyKind BJ w Int:=intKind BJ w
noncomputable abbrev tk(w):HeapKind BJ w (List Int):=tupleKind (ik w)
def KV{α K γ:Type}(f:α->K)(g:γ->Ap)(l:List (α×Int)):List (K×γ)->Prop:=
 HT (λxs=>HT True (λZ Z Z=>False) xs) (λp Z ih xs=>HT False (λx r' Z=>x.1=f p.1/\(∃t,g x.2=.int p.2 t)/\ih r') xs) l
def Fb:List (Int×Int)->List (Int×Ap)->Prop:=KV id id
noncomputable def kp(k:Int×Int):List Int:=[k.1,k.2]
noncomputable def vp(c:AU×Ap):Ap:=c.2
def H4:List ((Int×Int)×Int)->List (List Int×AU×Ap)->Prop:=KV kp vp
def AK(es:List Mg):List AV->Prop:=HT (λks=>HT True (λZ Z Z=>False) ks) (λe Z ih ks=>HT False (λk ks Z=>(∃t,e.key=.str k t)/\ih ks) ks) es
theorem AK.ind{P:List Mg->List AV->Prop}(h0:P [] [])(h1:∀e es k ks t,e.key=.str k t->AK es ks->P es ks->P (e::es) (k::ks))(es:List Mg):∀ks,AK es ks->P es ks:=by
 induction es with
 |nil=>
  intro ks h;cases ks with
  |nil=>exact h0
  |cons _ _=>exact C5 h
 |cons e es ih=>
  intro ks h;cases ks with
  |nil=>exact C5 h
  |cons k ks=>
   have h:(∃t,e.key=.str k t)/\AK es ks:=h;exact h.1.elim λt q=>h1 e es k ks t q h.2 (ih ks h.2)
noncomputable abbrev Nd(xs:Array Ap)(n:Nat):GG:=⟨.type "tuple",none,.seq xs n,#[]⟩
noncomputable abbrev GN(xs:Array Ap)(n:Nat):GG:=⟨.type "list",none,.seq xs n,#[]⟩
def Ii(w:CE)(h:BU)(a:AU)(l:List (Int×Int)):Prop:=
 a≠Ku/\∃kvs,h.DictOf (ik w) a kvs/\Fb l kvs
def Hz(w:CE)(D:AU->Prop)(h:BU)(a:AU)(l:List ((Int×Int)×Int)):Prop:=
 a≠Ku/\∃xs,h.DictOfH (tk w) a xs/\(∀x∈xs,¬D x.2.1)/\H4 l xs
mutual
def VR(w:CE)(D:AU->Prop)(h:BU):MV->Ap->Prop
 | .none,v=>v=.none
 | .bool b,v=>v=.bool b
 | .int i,v=>∃t,v=.int i t
 | .str x,v=>∃t,v=.str x t
 | .bytes l,v=>∃b t,v=.bytes b t/\Fs b=l
 | .tup l,v=>∃a xs n,v=.ref a/\¬D a/\h.get? a=some (Nd xs n)/\AY w D h l xs.toList
 | .lst l,v=>∃a xs n,v=.ref a/\¬D a/\h.get? a=some (GN xs n)/\AY w D h l xs.toList
 | .di l,v=>∃a,v=.ref a/\¬D a/\Ii w h a l
 | .dp l,v=>∃a,v=.ref a/\¬D a/\Hz w D h a l
 | .ins c ks vs,v=>∃a d es n,v=.ref a/\¬D a/\¬D d/\h.get? a=some (IJ c d)/\h.get? d=some (Iv es n)/\AK es ks/\AY w D h vs (es.map (·.val))
 | .D2 lo hi,v=>∃a t u x,v=.ref a/\¬D a/\IsRange h a lo hi 1 t u x
 | .ref a,v=>v=.ref a
def AY(w:CE)(D:AU->Prop)(h:BU):List MV->List Ap->Prop
 |[],[]=>True
 |m::ms,v::vs=>VR w D h m v/\AY w D h ms vs
 |[],_::_=>False
 |_::_,[]=>False
end
theorem BD:(∀w D h,AY w D h [] []=True)/\(∀w D h m ms v vs,AY w D h (m::ms) (v::vs)=(VR w D h m v/\AY w D h ms vs))/\(∀w D h head tail,AY w D h [] (head::tail)=False)/\(∀w D h head tail,AY w D h (head::tail) []=False):=⟨by intros;rfl,by intros;rfl,by intros;rfl,by intros;rfl⟩
theorem AZ:(∀w D h x,VR w D h MV.none x=(x=T9))/\(∀w D h x b,VR w D h (MV.bool b) x=(x=Value.bool b))/\(∀w D h x i,VR w D h (MV.int i) x=∃t,x=Value.int i t)/\(∀w D h x CK,VR w D h (MV.str CK) x=∃t,x=uv CK t)/\(∀w D h x l,VR w D h (MV.bytes l) x=∃b,∃t,x=Value.bytes b t/\Fs b=l)/\(∀w D h x l,VR w D h (MV.tup l) x=∃a,∃xs,∃n,x=Ja a/\¬D a/\h.get? a=Im (Nd xs n)/\AY w D h l xs.toList)/\(∀w D h x l,VR w D h (MV.lst l) x=∃a,∃xs,∃n,x=Ja a/\¬D a/\h.get? a=Im (GN xs n)/\AY w D h l xs.toList)/\(∀w D h x l,VR w D h (MV.di l) x=∃a,x=Ja a/\¬D a/\Ii w h a l)/\(∀w D h x l,VR w D h (MV.dp l) x=∃a,x=Ja a/\¬D a/\Hz w D h a l)/\(∀w D h x c ks vs,VR w D h (MV.ins c ks vs) x=∃a,∃d,∃es,∃n,x=Ja a/\¬D a/\¬D d/\h.get? a=Im (IJ c d)/\h.get? d=Im (Iv es n)/\AK es ks/\AY w D h vs (XN (λx=>x.val) es))/\(∀w D h x lo hi,VR w D h (MV.D2 lo hi) x=∃a,∃t,∃u,∃BE,x=Ja a/\¬D a/\IsRange h a lo hi 1 t u BE)/\(∀w D h x a,VR w D h (MV.ref a) x=(x=Ja a)):=⟨by intros;rfl,by intros;rfl,by intros;rfl,by intros;rfl,by intros;rfl,by intros;rfl,by intros;rfl,by intros;rfl,by intros;rfl,by intros;rfl,by intros;rfl,by intros;rfl⟩
set_option genCtorIdx true in
inductive MO where
 |list (l:List MV)
 |di (l:List (Int×Int))
 |dp (l:List ((Int×Int)×Int))
 |inst (c d:AU) (ks:List AV) (vs:List MV)
def OR(w:CE)(D:AU->Prop)(h:BU)(a:AU):MO->Prop
 | .list l=>∃xs n,h.get? a=some (GN xs n)/\AY w D h l xs.toList
 | .di l=>Ii w h a l
 | .dp l=>Hz w D h a l
 | .inst c d ks vs=>h.get? a=some (IJ c d)/\∃es n,h.get? d=some (Iv es n)/\AK es ks/\AY w D h vs (es.map (·.val))
noncomputable abbrev Hp:=AU->Option MO
noncomputable abbrev Lc:=List (AV×Option MV)
noncomputable def CT:Lc->AV->Option MV
 |[],_=>none
 |(y,o)::r,x=>if y=x then o else CT r x
theorem Km:(∀x,CT [] x=Tz)/\(∀x y o r,CT ((y,o)::r) x=if y=x then o else CT r x):=⟨by intros;rfl,by intros;rfl⟩
noncomputable def DS:Lc->AV->MV->Lc
 |[],_,_=>[]
 |(y,o)::r,x,v=>if y=x then(y,some v)::r else(y,o)::DS r x v
theorem Kn:(∀x BE,DS [] x BE=[])/\(∀x BE y o r,DS ((y,o)::r) x BE=if y=x then(y,Im BE)::r else(y,o)::DS r x BE):=⟨by intros;rfl,by intros;rfl⟩
noncomputable def BG:Lc->AV->Bool
 |[],_=>false
 |(y,_)::r,x=>if y=x then true else BG r x
theorem I8:(∀x,BG [] x=eO)/\(∀x y o r,BG ((y,o)::r) x=if y=x then TC else BG r x):=⟨by intros;rfl,by intros;rfl⟩
noncomputable def Hp.set(V:Hp)(a:AU)(o:MO):Hp:=λb=>if b=a then some o else V b
noncomputable def Hp.del(V:Hp)(a:AU):Hp:=λb=>if b=a then none else V b
def foot(V:Hp)(a:AU):Prop:=(∃o,V a=some o)\/∃x c ks vs,V x=some (.inst c a ks vs)
structure RS(w:CE)(h₀:BU)(D:AU->Prop)(h:BU)(V:Hp):Prop where
 live:∀a,D a->∃o,h.get? a=some o
 base:∀a o,h₀.get? a=some o->h.get? a=some o/\¬D a
 obj:∀a o,V a=some o->D a/\OR w D h a o
 E8:∀a c d ks vs,V a=some (.inst c d ks vs)->D d/\V d=none/\∀a' c' FI FE,V a'=some (.inst c' d FI FE)->a'=a
def Own(env:FX)(a:AU):Prop:=a=env.locals\/∃x,env.cells.lookup x=some a
structure FR(w:CE)(env:FX)(D:AU->Prop)(h:BU)(V:Hp)(m:Lc):Prop where
 kind:env.scope.kind=.function
 glob:env.globals=Ea
 G7:env.builtins=UJ
 own:∀a,Own env a->D a/\¬foot V a
 ns:∃mr,h.Ns env.locals mr/\∀x mv,CT m x=some mv->env.kindOf x=some .local->∃v,mr x=some v/\VR w D h mv v
 cell:∀x mv,CT m x=some mv->env.kindOf x=some .local\/∃c v,env.cells.lookup x=some c/\h.IsCell c (some v)/\VR w D h mv v
 kn:∀x,BG m x=true->env.kindOf x=some .local\/((env.kindOf x=some .cell\/env.kindOf x=some .free)/\∃c,env.cells.lookup x=some c)
 cells:∀x c,env.cells.lookup x=some c->∃v,h.IsCell c v
 apart:env.cells.Pairwise λx y=>x.2≠y.2
structure BS(w:CE)(h₀:BU):Prop where
 K:(KK w.params).In h₀
 lim:h₀.NoLimit
 g:∃mg,h₀.Ns Ea mg
 b:∃mb,h₀.Ns UJ mb/\∀x,x≠CL "__name__"->mb x=gY x
def JQ(A:Hx)(n:Nat):Prop:=A.handled=none/\A.depth+4*n<=900/\A.units+40*n<=9000
structure Cx where
 w:CE
 h₀:BU
 n:Nat
 A:Hx
 env:FX
 G:List AV
 C:List AV
structure St(X:Cx)(D:AU->Prop)(h:BU)(V:Hp)(m:Lc):Prop where
 rs:RS X.w X.h₀ D h V
 fr:FR X.w X.env D h V m
 bs:BS X.w X.h₀
 ok:JQ X.A X.n
 gl:∀x,X.G.contains x=true->X.env.kindOf x=some .globalImplicit
 kd:∀x,BG m x=true->if X.C.contains x=true then(X.env.kindOf x=some .cell\/X.env.kindOf x=some .free)else X.env.kindOf x=some .local
structure Step(own:AU->Prop)(D:AU->Prop)(h:BU)(V:Hp)(D':AU->Prop)(h':BU)(AE:Hp):Prop where
 GJ:∀a,D a->¬foot V a->D' a
 H9:∀a,D' a->D a\/h.get? a=none
 F0:∀a,foot AE a->foot V a\/h.get? a=none
 keep:∀a o,h.get? a=some o->¬foot V a->¬own a->h'.get? a=some o
 live:∀a o,h.get? a=some o->∃o',h'.get? a=some o'
structure CV(s s':Bq):Prop where
 gens:s'.gens=s.gens
 drawn:s'.drawn=s.drawn
 os:s'.os=s.os
def AW(X:Cx){α β:Type}(R:CE->(AU->Prop)->BU->β->α->Prop)(D:AU->Prop)(s:Bq)(V:Hp)(Q:β->Hp->Lc->Prop)(a:α)(s':Bq):Prop:=
 ∃b AE m' D',St X D' s'.heap AE m'/\Step (Own X.env) D s.heap V D' s'.heap AE/\CV s s'/\R X.w D' s'.heap b a/\Q b AE m'
def Dr:Ap->Bq->Prop:=λZ Z=>False
def TR(X:Cx){α β:Type}(R:CE->(AU->Prop)->BU->β->α->Prop)(t:EG α)(V:Hp)(m:Lc)(Q:β->Hp->Lc->Prop):Prop:=
 ∀s D,St X D s.heap V m->Aq (A7 BJ X.w) X.A t (AW X R D s V Q) Dr s
inductive Res where
 |next|brk|cont|ret (v:MV)
def RF(w:CE)(D:AU->Prop)(h:BU)(r:Res)(f:Flow):Prop:=match r with
 | .next=>match f with
  | .next=>True
  |_=>False
 | .brk=>match f with
  | .brk=>True
  |_=>False
 | .cont=>match f with
  | .cont=>True
  |_=>False
 | .ret m=>match f with
  | .ret v=>VR w D h m v
  |_=>False
def RU(_:CE)(_:AU->Prop)(_:BU)(_ _:Unit):Prop:=True
def RB(_:CE)(_:AU->Prop)(_:BU)(b a:Bool):Prop:=a=b
theorem Ob(r:RS w h₀ D h V)(f:foot V a):D a:=by
 rcases f with⟨o,e⟩|⟨x,c,ks,vs,e⟩
 ·exact(r.obj a o e).1
 ·exact(r.E8 x c a ks vs e).1
theorem IsTupleKey.mono(hk:∀o,h.get? a=some o->h'.get? a=some o)(x:IsTupleKey (ik w) h ks a):IsTupleKey (ik w) h' ks a:=by
 (refine A1 x λo items n AR=>?_;obtain h1:=AR.1;obtain h2:=AR.2.1;obtain h3:=AR.2.2.1;obtain h4:=AR.2.2.2);exact(BK o items n (BR (hk _ h1) h2 h3 h4))
theorem Ii.mono(hk:∀o,h.get? a=some o->h'.get? a=some o)(x:Ii w h a l):Ii w h' a l:=by
 (obtain n:=x.1;obtain Af:=x.2;refine AI Af λkvs AX=>?_;obtain cW:=AX.1;obtain h3:=AX.2;obtain⟨o,es,ep,h1,h2⟩:=cW);exact⟨n,⟨kvs,⟨(BK o es ep ⟨(hk _ h1),h2⟩),h3⟩⟩⟩
theorem Ii.has(x:Ii w h a l):∃o,h.get? a=some o:=by
 (obtain n:=x.1;obtain Ai:=x.2;refine AI Ai λkvs A5=>?_;obtain zN7:=A5.1;obtain h3:=A5.2;obtain⟨o,es,ep,h1,h2⟩:=zN7);exact⟨o,h1⟩
theorem bI(x:(tk w).is h ks a):∃o,h.get? a=some o:=by
 (refine A1 (show IsTupleKey (ik w) h ks a from x) λo items n A2=>?_;obtain h1:=A2.1;obtain h2:=A2.2.1;obtain h3:=A2.2.2.1;obtain h4:=A2.2.2.2);exact⟨o,h1⟩
theorem Hz.mono(hk:∀o,h.get? a=some o->h'.get? a=some o)
 (Oj:∀a o,¬D a->h.get? a=some o->h'.get? a=some o) (hd:∀a o,h.get? a=some o->¬D a->¬D' a) (x:Hz w D h a l):Hz w D' h' a l:=by
 (obtain n:=x.1;obtain BC:=x.2;refine AI BC λxs BM=>?_;obtain An0:=BM.1;obtain h7:=BM.2.1;obtain h8:=BM.2.2;obtain⟨o,es,ep,h1,h2,h3,h4,h5,h6⟩:=An0);refine⟨n,⟨xs,(AO (BK o es ep (Cc (hk _ h1) h2 h3 h4 (λx hx=>?_) h6)) (λx hx=>?_) h8)⟩⟩
 ·exact IsTupleKey.mono (λo e=>Oj _ o (h7 x hx) e) (h5 x hx)
 ·obtain⟨o',e⟩:=bI (h5 x hx);exact hd _ o' e (h7 x hx)
theorem Hz.has(x:Hz w D h a l):∃o,h.get? a=some o:=by
 (obtain n:=x.1;obtain CB:=x.2;refine AI CB λxs Bj=>?_;obtain An1:=Bj.1;obtain h7:=Bj.2.1;obtain h8:=Bj.2.2;obtain⟨o,es,ep,h1,h2⟩:=An1);exact⟨o,h1⟩
section
variable{w:CE}{D D':AU->Prop}{h h':BU}(hk:∀a o,¬D a->h.get? a=some o->h'.get? a=some o)(hd:∀a o,h.get? a=some o->¬D a->¬D' a)
include hk hd
mutual
theorem VR.mono:∀m v,VR w D h m v->VR w D' h' m v
 | .none,_,x=>by simpa only[AZ]using x
 | .bool _,_,x=>by simpa only[AZ]using x
 | .int _,_,x=>by simpa only[AZ]using x
 | .str _,_,x=>by simpa only[AZ]using x
 | .bytes _,_,x=>by simpa only[AZ]using x
 | .tup l,v,x=>by
  simp only[AZ]at x|-;(refine A1 x λa xs n Cb=>?_;obtain e:=Cb.1;obtain na:=Cb.2.1;obtain g:=Cb.2.2.1;obtain r:=Cb.2.2.2);exact(BK a xs n (BR e (hd _ _ g na) (hk _ _ na g) (AY.mono l _ r)))
 | .lst l,v,x=>by
  simp only[AZ]at x|-;(refine A1 x λa xs n Cg=>?_;obtain e:=Cg.1;obtain na:=Cg.2.1;obtain g:=Cg.2.2.1;obtain r:=Cg.2.2.2);exact(BK a xs n (BR e (hd _ _ g na) (hk _ _ na g) (AY.mono l _ r)))
 | .di l,v,x=>by
  simp only[AZ]at x|-;(refine AI x λa Bt=>?_;obtain e:=Bt.1;obtain na:=Bt.2.1;obtain r:=Bt.2.2);obtain⟨o,g⟩:=r.has;exact⟨a,(AO e (hd _ _ g na) (r.mono (λo g=>hk _ _ na g)))⟩
 | .dp l,v,x=>by
  simp only[AZ]at x|-;(refine AI x λa DU=>?_;obtain e:=DU.1;obtain na:=DU.2.1;obtain r:=DU.2.2);obtain⟨o,g⟩:=r.has;exact⟨a,(AO e (hd _ _ g na) (r.mono (λo g=>hk _ _ na g) hk hd))⟩
 | .ins c ks vs,v,x=>by
  simp only[AZ]at x|-;(refine Bc x λa d es n Ct=>?_;obtain e:=Ct.1;obtain na:=Ct.2.1;obtain nd:=Ct.2.2.1;obtain g:=Ct.2.2.2.1;obtain gd:=Ct.2.2.2.2.1;obtain ak:=Ct.2.2.2.2.2.1;obtain r:=Ct.2.2.2.2.2.2);exact(Ar a d es n (Dz e (hd _ _ g na) (hd _ _ gd nd) (hk _ _ na g) (hk _ _ nd gd) ak (AY.mono vs _ r)))
 | .D2 lo hi,v,x=>by
  simp only[AZ]at x|-;(refine Bc x λa t u y Dg=>?_;obtain e:=Dg.1;obtain na:=Dg.2.1;obtain g:=Dg.2.2);exact(Ar a t u y (AO e (hd _ _ g na) (hk _ _ na g)))
 | .ref _,_,x=>by simpa only[AZ]using x
theorem AY.mono:∀l vs,AY w D h l vs->AY w D' h' l vs
 |[],[],_=>by simp only[BD]
 |m::ms,v::vs,x=>by
  simp only[BD]at x|-;exact⟨VR.mono m v x.1,AY.mono ms vs x.2⟩
 |[],_::_,x=>by simp only[BD]at x
 |_::_,[],x=>by simp only[BD]at x
end
end
theorem GZ(x:AY w D h [a] vs):∃u,vs=[u]/\VR w D h a u:=by
 cases vs with
 |nil=>exact C5 x
 |cons u r=>
  cases r with
  |nil=>exact⟨u,rfl,x.1⟩
  |cons _ _=>exact C5 x.2
theorem J3(x:AY w D h [a,b] vs):∃u v,vs=[u,v]/\VR w D h a u/\VR w D h b v:=by
 cases vs with
 |nil=>exact C5 x
 |cons u r=>exact(GZ x.2).elim λv z=>⟨u,v,congrArg (XI u) z.1,x.1,z.2⟩
theorem Ag7(x:AY w D h [a,b,c] vs):∃u v z,vs=[u,v,z]/\VR w D h a u/\VR w D h b v/\VR w D h c z:=by
 cases vs with
 |nil=>exact C5 x
 |cons u r=>exact(J3 x.2).elim λv z=>z.elim λy z=>⟨u,v,y,congrArg (XI u) z.1,x.1,z.2⟩
theorem qS{α:Type}{M A t Q E s}(h:∀K:α->Bq->Prop,(∀a s',Q a s'->K a s')->Aq M A t K E s):Aq M A t Q E s:=h Q λZ Z q=>q
theorem cdK(h:∀K,(∀a s',Q a s'->K a s')->GI M A t K s):GI M A t Q s:=h Q λZ Z q=>q
end Mine.Internal
set_option genCtorIdx true
namespace Mine.Internal
abbrev Ff:AU->Prop:=λZ=>False
theorem CO{h:BU}{a:AU}{o:GG}(e:h.get? a=some o)(n:h.get? a=none):False:=by rw[e]at n;exact sN n
theorem Iw(r:RS w h₀ D h V)(f:foot V a):∃o,h.get? a=some o:=r.live a (Ob r f)
theorem Step.refl:Step own D h V D h V:=⟨λZ x Z=>x,λZ x=>.inl x,λZ x=>.inl x,λZ Z e Z Z=>e,λZ o e=>⟨o,e⟩⟩
theorem Step.trans{own:AU->Prop}(lt:∀a,D a->∃o,h.get? a=some o)(x:Step own D h V Ac C8 Ad)(y:Step own Ac C8 Ad Bk Fh Dq):Step own D h V Bk Fh Dq:=by
 obtain nn:∀a,C8.get? a=none->h.get? a=none:=λa n=>by
  cases e:h.get? a with
  |none=>rfl
  |some o=>obtain⟨o',e'⟩:=x.live a o e;exact(CO e' n).elim
 refine⟨λa d f=>?_,λa d=>?_,λa f=>?_,λa o e f n=>?_,λa o e=>?_⟩
 ·refine y.GJ a (x.GJ a d f) λf1=>?_;obtain⟨o,e⟩:=lt a d;rcases x.F0 a f1 with q|q
  ·exact f q
  ·exact CO e q
 ·rcases y.H9 a d with q|q
  ·exact x.H9 a q
  ·exact .inr (nn a q)
 ·rcases y.F0 a f with q|q
  ·exact x.F0 a q
  ·exact .inr (nn a q)
 ·refine y.keep a o (x.keep a o e f n) (λf1=>?_) n;rcases x.F0 a f1 with q|q
  ·exact f q
  ·exact CO e q
 ·obtain⟨o',e'⟩:=x.live a o e;exact y.live a o' e'
theorem Step.JA(hs:Step own D h V D' h' AE)(i:∀a,own a->AP3 a):Step AP3 D h V D' h' AE:=
 ⟨hs.GJ,hs.H9,hs.F0,λa o e f n=>hs.keep a o e f (λq=>n (i a q)),hs.live⟩
section
variable{own:AU->Prop}{w:CE}{h₀:BU}{D D':AU->Prop}{h h':BU}{V AE:Hp}
theorem Step.hk(r:RS w h₀ D h V)(ho:∀a,own a->D a)(s:Step own D h V D' h' AE):∀a o,¬D a->h.get? a=some o->h'.get? a=some o:=
 λa o n e=>s.keep a o e (λf=>n (Ob r f)) (λq=>n (ho a q))
theorem Step.hd(s:Step own D h V D' h' AE):∀a o,h.get? a=some o->¬D a->¬D' a:=λa o e n d=>by
 rcases s.H9 a d with q|q
 ·exact n q
 ·exact CO e q
theorem Step.vr(r:RS w h₀ D h V)(ho:∀a,own a->D a)(s:Step own D h V D' h' AE)(x:VR w D h m v):VR w D' h' m v:=VR.mono (s.hk r ho) s.hd m v x
theorem Step.F8(r:RS w h₀ D h V)(ho:∀a,own a->D a)(s:Step own D h V D' h' AE)(x:AY w D h m v):AY w D' h' m v:=AY.mono (s.hk r ho) s.hd m v x
end
theorem St.DT(x:St X D h V m):∀a,Own X.env a->D a:=λa o=>(x.fr.own a o).1
theorem FR.a9{own:AU->Prop}(lt:∀a,D a->∃o,h.get? a=some o)(fd:∀a,foot V a->D a)(f:FR w env D h V m)(s:Step own D h V D' h' AE)(no:∀a,Own env a->¬own a)(od:∀a,own a->D a):FR w env D' h' AE m:=by
 have hk:∀a o,¬D a->h.get? a=some o->h'.get? a=some o:=λa o n e=>s.keep a o e (λq=>n (fd a q)) (λq=>n (od a q));have own:∀a,Own env a->D' a/\¬foot AE a:=λa o=>by
  obtain⟨d,nf⟩:=f.own a o;refine⟨s.GJ a d nf,λq=>?_⟩;obtain⟨ob,e⟩:=lt a d;rcases s.F0 a q with q|q
  ·exact nf q
  ·exact CO e q
 have kp:∀a o,Own env a->h.get? a=some o->h'.get? a=some o:=λa o q e=>s.keep a o e (f.own a q).2 (no a q);(refine AI f.ns λmr AR=>?_;obtain Nl:=AR.1;obtain hm:=AR.2;(refine A1 Nl λo es ep AR=>?_;obtain e1:=AR.1;obtain e2:=AR.2));refine⟨f.kind,f.glob,f.G7,own,⟨mr,⟨(BK o es ep ⟨(kp _ _ (.inl rfl) e1),e2⟩),(λx mv e k=>?_)⟩⟩,λx mv e=>?_,f.kn,λx c hc=>?_,f.apart⟩
 ·(refine AI (hm x mv e k) λv AX=>?_;obtain a:=AX.1;obtain b:=AX.2);exact⟨v,⟨a,(VR.mono hk s.hd _ _ b)⟩⟩
 ·rcases f.cell x mv e with q|⟨c,v,a,⟨o,b1,b2⟩,r⟩
  ·exact .inl q
  ·exact .inr (Aj c v (AO a ⟨o,⟨(kp _ _ (.inr ⟨x,a⟩) b1),b2⟩⟩ (VR.mono hk s.hd _ _ r)))
 ·(refine Ao (f.cells x c hc) λv o A9=>?_;obtain a:=A9.1;obtain b:=A9.2);exact(Aj v o ⟨(kp _ _ (.inr ⟨x,hc⟩) a),b⟩)
theorem FR.step(lt:∀a,D a->∃o,h.get? a=some o)(fd:∀a,foot V a->D a)(f:FR w env D h V m)(s:Step Ff D h V D' h' AE):FR w env D' h' AE m:=
 f.a9 lt fd s (λZ Z q=>q) (λZ q=>q.elim)
theorem St.next(x:St X D h V m)(r:RS X.w X.h₀ D' h' AE)(s:Step Ff D h V D' h' AE):St X D' h' AE m:=
 ⟨r,x.fr.step x.rs.live (λZ q=>Ob x.rs q) s,x.bs,x.ok,x.gl,x.kd⟩
theorem Step.Hn(s:Step Ff D h V D' h' AE):Step own D h V D' h' AE:=s.JA λZ q=>q.elim
theorem Step.grow(hk:∀a o,h.get? a=some o->h'.get? a=some o):Step own D h V D h' V:=
 ⟨λZ d Z=>d,λZ d=>.inl d,λZ f=>.inl f,λa o e Z Z=>hk a o e,λa o e=>⟨o,hk a o e⟩⟩
theorem OR.mono(hk:∀a o,¬D a->h.get? a=some o->h'.get? a=some o)(hd:∀a o,h.get? a=some o->¬D a->¬D' a)
 (ha:∀o,h.get? a=some o->h'.get? a=some o) (hda:∀c d ks vs,mo=.inst c d ks vs->∀o,h.get? d=some o->h'.get? d=some o) (x:OR w D h a mo):OR w D' h' a mo:=by
 cases mo with
 |list l=>(refine Ao x λxs n Ai=>?_;obtain e:=Ai.1;obtain r:=Ai.2);exact(Aj xs n ⟨(ha _ e),(AY.mono hk hd _ _ r)⟩)
 |di l=>exact Ii.mono ha x
 |dp l=>exact Hz.mono ha hk hd x
 |inst c d ks vs=>(obtain e:=x.1;obtain A5:=x.2;refine Ao A5 λes n A6=>?_;obtain g:=A6.1;obtain k:=A6.2.1;obtain r:=A6.2.2);exact⟨(ha _ e),(Aj es n (AO (hda c d ks vs rfl _ g) k (AY.mono hk hd _ _ r)))⟩
theorem RS.grow(r:RS w h₀ D h V)(hk:∀a o,h.get? a=some o->h'.get? a=some o):RS w h₀ D h' V:=
 ⟨λa d=>(by obtain⟨o,e⟩:=r.live a d;exact⟨o,hk a o e⟩),λa o e=>⟨hk _ _ (r.base a o e).1,(r.base a o e).2⟩,
  λa o e=>⟨(r.obj a o e).1,OR.mono (λa o Z e=>hk a o e) (λZ Z Z n=>n) (λo e=>hk _ o e) (λZ Z Z Z Z o e=>hk _ o e) (r.obj a o e).2⟩,r.E8⟩
noncomputable def DQ:MO->Option AU
 | .list _=>none
 | .di _=>none
 | .dp _=>none
 | .inst _ d _ _=>some d
theorem O3(h:DQ mo=some d):∃c ks vs,mo=.inst c d ks vs:=by
 cases mo<;>simp[DQ]at h
 subst h;exact(BK _ _ _ rfl)
theorem Qr(f:foot (V.set a mo) b):foot V b\/b=a\/DQ mo=some b:=by
 rcases f with⟨o,e⟩|⟨x,c,ks,vs,e⟩
 ·unfold Hp.set at e;split at e
  ·exact .inr (.inl ‹_›)
  ·exact .inl (.inl ⟨o,e⟩)
 ·unfold Hp.set at e;split at e
  ·(obtain zI:=Au e;subst zI);exact .inr (.inr rfl)
  ·exact .inl (.inr (Ar x c ks vs e))
theorem RS.alloc{N:AU->Prop}(r:RS w h₀ D h V)(hk:∀a o,h.get? a=some o->h'.get? a=some o)
 (hN:∀b,N b->h.get? b=none/\∃o,h'.get? b=some o) (ha:N a) (ho:OR w (λb=>D b\/N b) h' a mo) (hi:∀d,DQ mo=some d->N d/\d≠a):
 RS w h₀ (λb=>D b\/N b) h' (V.set a mo)/\Step Ff D h V (λb=>D b\/N b) h' (V.set a mo):=by
 have nf:∀b,N b->¬foot V b:=λb n f=>by
  obtain⟨o,e⟩:=Iw r f;exact CO e (hN b n).1
 obtain sN:∀b,N b->V b=none:=λb n=>by
  cases e:V b with
  |none=>rfl
  |some o=>exact absurd (.inl ⟨o,e⟩) (nf b n)
 refine⟨⟨λb d=>?_,λb o e=>⟨hk _ _ (r.base b o e).1,λq=>?_⟩,λb o e=>?_,λb c d ks vs e=>?_⟩,⟨λZ d Z=>.inl d,λb d=>?_,λb f=>?_,λb o e Z Z=>hk b o e,λb o e=>⟨o,hk b o e⟩⟩⟩
 ·rcases d with d|d
  ·obtain⟨o,e⟩:=r.live b d;exact⟨o,hk b o e⟩
  ·exact(hN b d).2
 ·rcases q with q|q
  ·exact(r.base b o e).2 q
  ·exact CO (r.base b o e).1 (hN b q).1
 ·unfold Hp.set at e;split at e
  ·rename_i q;subst q;(have zI:=Au e;subst zI);exact⟨.inr ha,ho⟩
  ·refine⟨.inl (r.obj b o e).1,OR.mono (λa o Z e=>hk a o e) (λa o e n q=>?_) (λo e=>hk _ o e) (λZ Z Z Z Z o e=>hk _ o e) (r.obj b o e).2⟩;rcases q with q|q
   ·exact n q
   ·exact CO e (hN a q).1
 ·unfold Hp.set at e;split at e
  ·rename_i q;subst q;(have zI:=Au e;subst zI);obtain⟨n,ne⟩:=hi d rfl;refine(AO (.inr n) (by unfold Hp.set;refine AG (if_neg ne) ?_;exact sN d n) (λa' c' FI FE e'=>?_));unfold Hp.set at e';split at e'
   ·assumption
   ·exact absurd (.inr (Ar a' c' FI FE e')) (nf d n)
  ·(refine DF (r.E8 b c d ks vs e) λq1 q2 q3=>?_);have dN:¬N d:=λn=>absurd (.inr (Ar b c ks vs e)) (nf d n);obtain da:d≠a:=λq=>dN (q▸ha);refine(AO (.inl q1) (by unfold Hp.set;apply AG (if_neg da);exact q2) (λa' c' FI FE e'=>?_));unfold Hp.set at e';split at e'
   ·(have zI:=Au e';subst zI);exact absurd (hi d rfl).1 dN
   ·exact q3 a' c' FI FE e'
 ·rcases d with d|d
  ·exact .inl d
  ·exact .inr (hN b d).1
 ·rcases Qr f with q|q|q
  ·exact .inl q
  ·subst q;exact .inr (hN _ ha).1
  ·exact .inr (hN _ (hi b q).1).1
theorem RS.QX{N:AU->Prop}(r:RS w h₀ D h V)(hk:∀a o,h.get? a=some o->h'.get? a=some o)
 (hN:∀b,N b->h.get? b=none/\∃o,h'.get? b=some o):RS w h₀ (λb=>D b\/N b) h' V/\Step Ff D h V (λb=>D b\/N b) h' V:=by
 refine⟨⟨λb d=>?_,λb o e=>⟨hk _ _ (r.base b o e).1,λq=>?_⟩,λb o e=>⟨.inl (r.obj b o e).1,OR.mono (λa o Z e=>hk a o e) (λa o e n q=>?_) (λo e=>hk _ o e) (λZ Z Z Z Z o e=>hk _ o e) (r.obj b o e).2⟩,
  λb c d ks vs e=>(by(obtain cH:=(r.E8 b c d ks vs e);obtain q1:=cH.1;obtain q2:=cH.2.1;obtain q3:=cH.2.2);exact(AO (.inl q1) q2 q3))⟩,⟨λZ d Z=>.inl d,λb d=>?_,λb f=>.inl f,λb o e Z Z=>hk b o e,λb o e=>⟨o,hk b o e⟩⟩⟩
 ·rcases d with d|d
  ·obtain⟨o,e⟩:=r.live b d;exact⟨o,hk b o e⟩
  ·exact(hN b d).2
 ·rcases q with q|q
  ·exact(r.base b o e).2 q
  ·exact CO (r.base b o e).1 (hN b q).1
 ·rcases q with q|q
  ·exact n q
  ·exact CO e (hN a q).1
 ·rcases d with d|d
  ·exact .inl d
  ·exact .inr (hN b d).1
noncomputable def place:AU->MO->AU
 |_,.inst _ d _ _=>d
 |a,_=>a
theorem yN(e:V a=some mo)(hi:DQ CS=DQ mo)(f:foot (V.set a CS) b):foot V b:=by
 rcases Qr f with q|q|q
 ·exact q
 ·(try clear f;subst q);exact .inl ⟨mo,e⟩
 ·rw[hi]at q;(refine A1 (O3 q) λc ks vs Hv=>?_;(try clear q;subst Hv));exact .inr (Ar a c ks vs e)
theorem RS.upd(r:RS w h₀ D h V)(e:V a=some mo)(hi:DQ CS=DQ mo)(hb:b=place a mo)
 (hk:∀c o,c≠b->h.get? c=some o->h'.get? c=some o) (ho:OR w D h' a CS):
 RS w h₀ D h' (V.set a CS)/\Step Ff D h V D h' (V.set a CS):=by
 have ju:D b/\foot V b:=by
  subst hb;cases mo with
  |inst c d ks vs=>exact⟨(r.E8 a c d ks vs e).1,.inr (Ar a c ks vs e)⟩
  |_=>exact⟨(r.obj a _ e).1,.inl ⟨_,e⟩⟩
 have ne:∀c,¬D c->c≠b:=λc n q=>n (q▸ju.1);have lb:∃o,h'.get? b=some o:=by
  subst hb;cases CS with
  |list l=>(refine Ao ho λxs n BM=>?_;obtain q:=BM.1);cases mo<;>first|exact⟨_,q⟩|exact nS hi
  |di l=>obtain⟨o,q⟩:=Ii.has ho;cases mo<;>first|exact⟨_,q⟩|exact nS hi
  |dp l=>obtain⟨o,q⟩:=Hz.has ho;cases mo<;>first|exact⟨_,q⟩|exact nS hi
  |inst c d ks vs=>(obtain q:=ho.1;obtain Bx:=ho.2;refine Ao Bx λes n CB=>?_;obtain q':=CB.1);cases mo<;>first|(cases hi;exact⟨_,q'⟩)|exact sN hi
 have lv:∀c o,h.get? c=some o->∃o',h'.get? c=some o':=λc o q=>by
  by_cases z:c=b
  ·exact z▸lb
  ·exact⟨o,hk c o z q⟩
 refine⟨⟨λc d=>(by obtain⟨o,q⟩:=r.live c d;exact lv c o q),λc o q=>⟨hk c o (ne c (r.base c o q).2) (r.base c o q).1,(r.base c o q).2⟩,λc o q=>?_,λx c d ks vs q=>?_⟩,
  ⟨λZ d Z=>d,λZ d=>.inl d,λc f=>.inl (yN e hi f),λc o q nf Z=>hk c o (λz=>nf (z▸ju.2)) q,lv⟩⟩
 ·unfold Hp.set at q;split at q
  ·rename_i z;subst z;(have zI:=Au q;subst zI);exact⟨(r.obj c mo e).1,ho⟩
  ·rename_i z;obtain⟨d1,o1⟩:=r.obj c o q;refine⟨d1,OR.mono (λc' o' n q'=>hk c' o' (ne c' n) q') (λZ Z Z n=>n) (λo' q'=>hk c o' (λy=>?_) q') (λcc d ks vs y o' q'=>hk d o' (λy'=>?_) q') o1⟩
   ·subst hb;subst y;cases mo with
    |inst cc d ks vs=>exact absurd q (by refine AD (show place a (.inst cc d ks vs)=d from rfl)<|AD ((r.E8 a cc d ks vs e).2.1) ?_;intro z;exact nS z)
    |_=>exact z rfl
   ·subst y;subst hb;subst y';cases mo with
    |inst vw d' FI FE=>exact z ((r.E8 a vw d' FI FE e).2.2 c cc ks vs q)
    |_=>have:=(r.E8 c cc _ ks vs q).2.1;rw[show place a _=a from rfl]at this;rw[e]at this;exact sN this
 ·unfold Hp.set at q;split at q
  ·rename_i z;subst z;(have zI:=Au q;subst zI);(refine A1 (O3 (hi.symm.trans rfl)) λc' FI FE Nj=>?_;(try clear hi;subst Nj));(obtain cJ:=(r.E8 x c' d FI FE e);obtain q1:=cJ.1;obtain q2:=cJ.2.1;obtain q3:=cJ.2.2);have:d≠x:=λz=>by rw[z,e]at q2;exact sN q2
   refine(AO q1 (by unfold Hp.set;refine AG (if_neg this) ?_;exact q2) (λa' Xo ZZ bQ e'=>?_));unfold Hp.set at e';split at e'
   ·assumption
   ·exact q3 a' Xo ZZ bQ e'
  ·rename_i z;(obtain cP:=(r.E8 x c d ks vs q);obtain q1:=cP.1;obtain q2:=cP.2.1;obtain q3:=cP.2.2);have da:d≠a:=λz=>by rw[z,e]at q2;exact sN q2
   refine(AO q1 (by unfold Hp.set;apply AG (if_neg da);exact q2) (λa' Xo ZZ bQ e'=>?_));unfold Hp.set at e';split at e'
   ·rename_i y;subst y;(have zI:=Au e';subst zI);(refine A1 (O3 (hi.symm.trans rfl)) λc' FI FE JL=>?_;(try clear hi;subst JL));exact absurd (q3 a' c' FI FE e) (λy=>z y.symm)
   ·exact q3 a' Xo ZZ bQ e'
theorem yM(f:foot (V.del a) b):foot V b:=by
 rcases f with⟨o,e⟩|⟨x,c,ks,vs,e⟩
 ·unfold Hp.del at e;split at e
  ·exact nS e
  ·exact .inl ⟨o,e⟩
 ·unfold Hp.del at e;split at e
  ·exact nS e
  ·exact .inr (Ar x c ks vs e)
theorem RS.freeze(r:RS w h₀ D h V)(e:V a=some mo):
 RS w h₀ (λb=>D b/\¬(b=a\/DQ mo=some b)) h (V.del a)/\Step Ff D h V (λb=>D b/\¬(b=a\/DQ mo=some b)) h (V.del a):=by
 have inN:∀b,(b=a\/DQ mo=some b)->foot V b:=λb q=>by
  rcases q with rfl|q
  ·exact .inl ⟨mo,e⟩
  ·(refine A1 (O3 q) λc ks vs Hu=>?_;(try clear q;subst Hu));exact .inr (Ar a c ks vs e)
 refine⟨⟨λb d=>r.live b d.1,λb o q=>⟨(r.base b o q).1,λd=>(r.base b o q).2 d.1⟩,λb o q=>?_,λb c d ks vs q=>?_⟩,
  ⟨λb d nf=>⟨d,λq=>nf (inN b q)⟩,λb d=>.inl d.1,λb f=>.inl (yM f),λZ Z q Z Z=>q,λZ o q=>⟨o,q⟩⟩⟩
 ·unfold Hp.del at q;split at q
  ·exact nS q
  ·rename_i z;obtain⟨d,o'⟩:=r.obj b o q;refine⟨⟨d,λy=>?_⟩,OR.mono (λZ Z Z q=>q) (λZ Z Z n d=>n d.1) (λZ q=>q) (λZ Z Z Z Z Z q=>q) o'⟩;rcases y with y|y
   ·exact z y
   ·(refine A1 (O3 y) λc ks vs JM=>?_;(try clear y;subst JM));rw[(r.E8 a c b ks vs e).2.1]at q;exact nS q
 ·unfold Hp.del at q;split at q
  ·exact nS q
  ·rename_i z;(refine DF (r.E8 b c d ks vs q) λq1 q2 q3=>?_);refine(AO ⟨q1,λy=>?_⟩ (by unfold Hp.del;split<;>first|rfl|exact q2) (λa' c' FI FE q'=>?_))
   ·rcases y with y|y
    ·rw[y,e]at q2;exact sN q2
    ·(refine A1 (O3 y) λc' FI FE SY=>?_;(try clear y;subst SY));exact z (q3 a c' FI FE e).symm
   ·unfold Hp.del at q';split at q'
    ·exact nS q'
    ·exact q3 a' c' FI FE q'
theorem RS.pZ(r:RS w h₀ D h V)(hb:D b)(hf:¬foot V b)(hk:∀c o,c≠b->h.get? c=some o->h'.get? c=some o)(hl:∃o,h'.get? b=some o):
 RS w h₀ D h' V/\Step (λa=>a=b) D h V D h' V:=by
 have ne:∀c,¬D c->c≠b:=λc n q=>n (q▸hb);have lv:∀c o,h.get? c=some o->∃o',h'.get? c=some o':=λc o q=>by
  by_cases z:c=b
  ·exact z▸hl
  ·exact⟨o,hk c o z q⟩
 exact⟨⟨λc d=>(by obtain⟨o,q⟩:=r.live c d;exact lv c o q),λc o q=>⟨hk c o (ne c (r.base c o q).2) (r.base c o q).1,(r.base c o q).2⟩,
  λc o q=>⟨(r.obj c o q).1,OR.mono (λa o n e=>hk a o (ne a n) e) (λZ Z Z n=>n) (λo' e=>hk c o' (λz=>hf (z▸.inl ⟨o,q⟩)) e)
   (λcc d ks vs y o' e=>hk d o' (λz=>hf (z▸.inr (Ar c cc ks vs (y▸q)))) e) (r.obj c o q).2⟩,r.E8⟩,
  ⟨λZ d Z=>d,λZ d=>.inl d,λZ f=>.inl f,λa o e Z n=>hk a o n e,lv⟩⟩
theorem RS.Qj(r:RS w h₀ D h V)(hI:D I)(hf:¬foot V I)(hk:∀c o,c≠I->h.get? c=some o->h'.get? c=some o):RS w h₀ (λa=>D a/\a≠I) h' V:=by
 have ne:∀c,¬D c->c≠I:=λc n q=>n (q▸hI);exact⟨λc d=>(by obtain⟨o,q⟩:=r.live c d.1;exact⟨o,hk c o d.2 q⟩),λc o q=>⟨hk c o (ne c (r.base c o q).2) (r.base c o q).1,λd=>(r.base c o q).2 d.1⟩,
  λc o q=>⟨⟨(r.obj c o q).1,λz=>hf (z▸.inl ⟨o,q⟩)⟩,OR.mono (λa o n e=>hk a o (ne a n) e) (λZ Z Z n d=>n d.1) (λo' e=>hk c o' (λz=>hf (z▸.inl ⟨o,q⟩)) e)
   (λcc d ks vs y o' e=>hk d o' (λz=>hf (z▸.inr (Ar c cc ks vs (y▸q)))) e) (r.obj c o q).2⟩,
  λb c d ks vs q=>(by(obtain cQ:=(r.E8 b c d ks vs q);obtain q1:=cQ.1;obtain q2:=cQ.2.1;obtain q3:=cQ.2.2);exact(AO ⟨q1,λz=>hf (z▸.inr (Ar b c ks vs q))⟩ q2 q3))⟩
theorem Step.Qj{own:AU->Prop}(lt:∀a,Ac a->∃o,C8.get? a=some o)(s:Step own Ac C8 Ad D h V)(hI:C8.get? I=none)(hk:∀c o,c≠I->h.get? c=some o->h'.get? c=some o):
 Step own Ac C8 Ad (λa=>D a/\a≠I) h' V:=by
 have ne:∀a o,C8.get? a=some o->a≠I:=λa o e z=>by rw[z]at e;exact CO e hI
 refine⟨λa d f=>⟨s.GJ a d f,(by obtain⟨o,e⟩:=lt a d;exact ne a o e)⟩,λa d=>s.H9 a d.1,s.F0,λa o e f n=>hk a o (ne a o e) (s.keep a o e f n),λa o e=>?_⟩;obtain⟨o',e'⟩:=s.live a o e;exact⟨o',hk a o' (ne a o e) e'⟩
theorem RS.AZ1{N:AU->Prop}(r:RS w h₀ D h V)(hb:D b)(hf:¬foot V b)(hk:∀c o,c≠b->h.get? c=some o->h'.get? c=some o)(hl:∃o,h'.get? b=some o)
 (hN:∀c,N c->h.get? c=none/\∃o,h'.get? c=some o):
 RS w h₀ (λc=>D c\/N c) h' V/\Step (λa=>a=b) D h V (λc=>D c\/N c) h' V:=by
 have ne:∀c,¬D c->c≠b:=λc n q=>n (q▸hb);have lv:∀c o,h.get? c=some o->∃o',h'.get? c=some o':=λc o q=>by
  by_cases z:c=b
  ·exact z▸hl
  ·exact⟨o,hk c o z q⟩
 have hd:∀a o,h.get? a=some o->¬D a->¬(D a\/N a):=λa o e n q=>q.elim n λz=>CO e (hN a z).1;refine⟨⟨λc d=>d.elim (λd=>(by obtain⟨o,q⟩:=r.live c d;exact lv c o q)) (λd=>(hN c d).2),λc o q=>⟨hk c o (ne c (r.base c o q).2) (r.base c o q).1,hd c o (r.base c o q).1 (r.base c o q).2⟩,
  λc o q=>⟨.inl (r.obj c o q).1,OR.mono (λa o n e=>hk a o (ne a n) e) hd (λo' e=>hk c o' (λz=>hf (z▸.inl ⟨o,q⟩)) e)
   (λcc d ks vs y o' e=>hk d o' (λz=>hf (z▸.inr (Ar c cc ks vs (y▸q)))) e) (r.obj c o q).2⟩,λb c d ks vs q=>(by(obtain cT:=(r.E8 b c d ks vs q);obtain q1:=cT.1;obtain q2:=cT.2.1;obtain q3:=cT.2.2);exact(AO (.inl q1) q2 q3))⟩,
  ⟨λZ d Z=>.inl d,λc d=>d.elim .inl (λz=>.inr (hN c z).1),λZ f=>.inl f,λa o e Z n=>hk a o n e,lv⟩⟩
theorem RS.adopt(r:RS w h₀ D h V)(ha:D a)(hf:¬foot V a)(ho:OR w D h a mo)(hi:DQ mo=none):RS w h₀ D h (V.set a mo):=by
 have sa:V a=none:=by
  cases e:V a with
  |none=>rfl
  |some o=>exact absurd (.inl ⟨o,e⟩) hf
 refine⟨r.live,r.base,λc o q=>?_,λb c d ks vs q=>?_⟩
 ·unfold Hp.set at q;split at q
  ·rename_i z;subst z;(obtain zI:=Au q;subst zI);exact⟨ha,ho⟩
  ·exact r.obj c o q
 ·unfold Hp.set at q;split at q
  ·(obtain zI:=Au q;subst zI);exact sN hi
  ·(refine DF (r.E8 b c d ks vs q) λq1 q2 q3=>?_);obtain da:d≠a:=λz=>hf (z▸.inr (Ar b c ks vs q));refine(AO q1 (by unfold Hp.set;apply AG (if_neg da);exact q2) (λa' c' FI FE q'=>?_));unfold Hp.set at q';split at q'
   ·(obtain zI:=Au q';subst zI);exact sN hi
   ·exact q3 a' c' FI FE q'
theorem CV.refl:CV s s:=⟨rfl,rfl,rfl⟩
theorem CV.trans(x:CV a b)(y:CV b c):CV a c:=⟨y.gens.trans x.gens,y.drawn.trans x.drawn,y.os.trans x.os⟩
section
variable{X:Cx}{α β:Type}{R:CE->(AU->Prop)->BU->β->α->Prop}{D Ac:AU->Prop}{s AJ A8:Bq}{V Ad Dq:Hp}{m m₁:Lc}{Q:β->Hp->Lc->Prop}
theorem AW.trans(hs:St X D s.heap V m)(st:Step (Own X.env) D s.heap V Ac AJ.heap Ad)(sr:CV s AJ)(p:AW X R Ac AJ Ad Q a A8):AW X R D s V Q a A8:=by
 (refine Bc p λb AE m' D' AR=>?_;obtain h1:=AR.1;obtain h2:=AR.2.1;obtain h3:=AR.2.2.1;obtain h4:=AR.2.2.2.1;obtain h5:=AR.2.2.2.2);exact(Ar b AE m' D' (An h1 (st.trans hs.rs.live h2) (sr.trans h3) h4 h5))
theorem AW.here(hs:St X D s.heap V m)(r:R X.w D s.heap b a)(q:Q b V m):AW X R D s V Q a {s with toks:=t}:=
 (Ar b V m D (An hs Step.refl ⟨rfl,rfl,rfl⟩ r q))
theorem AW.Cm(hs:St X D s.heap V m)(r:R X.w D s.heap b a)(q:Q b V m):AW X R D s V Q a s:=
 (Ar b V m D (An hs Step.refl ⟨rfl,rfl,rfl⟩ r q))
theorem AW.next(hs:St X D s.heap V m)(r:RS X.w X.h₀ D' h' AE)(st:Step Ff D s.heap V D' h' AE)(rr:R X.w D' h' b a)(q:Q b AE m):
 AW X R D s V Q a {s with heap:=h',toks:=t}:=
 (Ar b AE m D' (An (hs.next r st) st.Hn ⟨rfl,rfl,rfl⟩ rr q))
theorem TR.go(h:TR X R t V m Q)(hs:St X D s.heap V m)
 (k:∀a AJ b Ad m₁ Ac,St X Ac AJ.heap Ad m₁->Step (Own X.env) D s.heap V Ac AJ.heap Ad->CV s AJ->R X.w Ac AJ.heap b a->Q b Ad m₁->Q' a AJ):Aq (A7 BJ X.w) X.A t Q' E s:=
 Bz (h s D hs) (λa s' MT=>by(refine Bc MT λb AE m' D' AR=>?_;refine Cu AR λh1 h2 h3 h4 h5=>?_);exact k a s' b AE m' D' h1 h2 h3 h4 h5) λZ Z x=>x.elim
theorem TR.mono(h:TR X R t V m Q)(k:∀b V m,Q b V m->Q' b V m):TR X R t V m Q':=
 λs D hs=>Bz (h s D hs) (λa s' Pl=>by(refine Bc Pl λb AE m' D' Af=>?_;obtain h1:=Af.1;obtain h2:=Af.2.1;obtain h3:=Af.2.2.1;obtain h4:=Af.2.2.2.1;obtain h5:=Af.2.2.2.2);exact(Ar b AE m' D' (An h1 h2 h3 h4 (k _ _ _ h5)))) λZ Z x=>x
theorem TR.seq{γ δ:Type}{f6:CE->(AU->Prop)->BU->δ->γ->Prop}{t}{Q₁:δ->Hp->Lc->Prop}{f:γ->EG α}{E:Ap->Bq->Prop}
 (h:TR X f6 t Ad m₁ Q₁) (Ki:St X Ac AJ.heap Ad m₁) (hs:St X D s.heap V m) (st:Step (Own X.env) D s.heap V Ac AJ.heap Ad) (sr:CV s AJ)
 (k:∀c A8 d Dq m₂ Bk,St X Bk A8.heap Dq m₂->Step (Own X.env) Ac AJ.heap Ad Bk A8.heap Dq->Step (Own X.env) D s.heap V Bk A8.heap Dq->CV s A8->f6 X.w Bk A8.heap d c->Q₁ d Dq m₂->
  Aq (A7 BJ X.w) X.A (f c) (AW X R D s V Q) E A8):
 Aq (A7 BJ X.w) X.A t (λc A8=>Aq (A7 BJ X.w) X.A (f c) (AW X R D s V Q) E A8) E AJ:=
 TR.go h Ki λc A8 d Dq m₂ Bk a b e r q=>k c A8 d Dq m₂ Bk a b (st.trans hs.rs.live b) (sr.trans e) r q
theorem TR.fin(h:TR X R t Ad m₁ Q)(Ki:St X Ac AJ.heap Ad m₁)(hs:St X D s.heap V m)(st:Step (Own X.env) D s.heap V Ac AJ.heap Ad)(sr:CV s AJ):
 Aq (A7 BJ X.w) X.A t (AW X R D s V Q) E AJ:=
 TR.go h Ki λa A8 b Dq m₂ Bk h1 h2 h3 h4 h5=>(Ar b Dq m₂ Bk (An h1 (st.trans hs.rs.live h2) (sr.trans h3) h4 h5))
end
section
variable{X:Cx}{V:Hp}{m:Lc}{Q:MV->Hp->Lc->Prop}
theorem NQ:∀{m x v},CT m x=some v->BG m x=true
 |(y,o)::r,x,v,h=>by
  simp only[Km]at h;simp only[I8];by_cases e:y=x
  ·simp[e]
  ·simp only[e,if_false]at h|-;exact NQ h
theorem Ae4(q:Q (.int i) V m):TR X VR (Ab (.Constant (.int i) k pos) X.env) V m Q:=
 λs D hs=>bW (AW.here hs (by simp only[AZ];exact⟨_,rfl⟩) q)
theorem Ae6(q:Q .none V m):TR X VR (Ab (.Constant .none k pos) X.env) V m Q:=
 λs D hs=>wpAny_Constant_none (AW.Cm hs (by simp only[AZ]) q)
theorem Ad3(q:Q (.bool b) V m):TR X VR (Ab (.Constant (.bool b) k pos) X.env) V m Q:=
 λs D hs=>wpAny_Constant_bool (AW.Cm hs (by simp only[AZ]) q)
theorem Af2(q:Q (.str x) V m):TR X VR (Ab (.Constant (.str x) k pos) X.env) V m Q:=
 λs D hs=>wpAny_Constant_str (AW.here hs (by simp only[AZ];exact⟨_,rfl⟩) q)
theorem Ac2(hm:CT m x=some mv)(q:Q mv V m)(hd:(x==("__debug__":AV))=false)(hc:(x==("__classdict__":AV))=false):
 TR X VR (Ab (.Name x pos) X.env) V m Q:=λs D hs=>by
 refine SN ?_ hd;obtain hh:=NQ hm;rcases hs.fr.kn x hh with k|⟨k,c,EX⟩
 ·(refine AI hs.fr.ns λmr Af=>?_;refine BQ Af λns h=>?_);(refine AI (h x mv hm k) λv AX=>?_;refine BQ AX λa b=>?_);exact WB hs.fr.kind k ns a (AW.Cm hs b q)
 ·rcases hs.fr.cell x mv hm with k'|⟨c,v,a,b,r⟩
  ·rw[k']at k;rcases k with k|k<;>cases k
  ·rcases k with k|k
   ·exact Aj8 hs.fr.kind k a b (AW.Cm hs r q)
   ·exact Aj9 hs.fr.kind k a b (AW.Cm hs r q) hc
end
section
variable{X:Cx}{V:Hp}{m:Lc}
theorem bK(q:Q [] V m):TR X AY (F7 (Dl pos (Cr [] X.env))) V m Q:=
 λs D hs=>spliced_nil (AW.Cm hs (by simp only[BD]) q)
theorem pq
 (h:TR X VR (Ab e X.env) V m λv V m=>TR X AY (F7 (Dl pos (Cr AN X.env))) V m λvs V m=>Q (v::vs) V m)
 (he:Cr (e::AN) X.env=(false,Ab e X.env)::Cr AN X.env):TR X AY (F7 (Dl pos (Cr (e::AN) X.env))) V m Q:=λs D hs=>by
 refine AD he<|spliced_cons (TR.go h hs λv AJ mv Ad m₁ Ac h1 h2 h3 h4 h5=>TR.go h5 h1 λvs A8 CY Dq m₂ Bk g1 g2 g3 g4 g5=>?_)
 exact(Ar (mv::CY) Dq m₂ Bk (An g1 (h2.trans hs.rs.live g2) (h3.trans g3) (by simp only[BD];exact⟨g2.vr h1.rs h1.DT h4,g4⟩) g5))
theorem St.push{s:Bq}{m:Lc}(hs:St X D s.heap V m)(o:GG):St X D (s.heap.push o) V m/\Step Ff D s.heap V D (s.heap.push o) V:=by
 obtain g:=Step.grow (λa o' e=>DD _ e);exact⟨hs.next (hs.rs.grow (λa o' e=>DD _ e)) g,g⟩
theorem MA(r:RS w h₀ D h V):¬D h.objs.size:=λd=>(by obtain⟨_,e⟩:=r.live _ d;exact G0 _ (EF e))
theorem FA(h:BU):h.get? h.objs.size=none:=by
 cases e:h.get? h.objs.size with
 |none=>rfl
 |some o=>exact absurd (EF e) (G0 _)
theorem AY.length:∀{ms vs},AY w D h ms vs->ms.length=vs.length
 |[],[],_=>rfl
 |_::_,_::_,x=>by simp only[BD]at x;simp only[KQ];exact AD (AY.length x.2) rfl
 |[],_::_,x=>by simp only[BD]at x
 |_::_,[],x=>by simp only[BD]at x
theorem Ad0{k:Nat}{pos:G4}{Q:MV->Hp->Lc->Prop}
 (h:TR X AY (F7 (Dl pos (Cr elts X.env))) V m λvs V m=>vs.length<=1000/\Q (.tup vs) V m):TR X VR (Ab (.Tuple elts k pos) X.env) V m Q:=λs D hs=>by
 refine wpAny_Tuple (TR.go h hs λvs AJ CY Ad m₁ Ac h1 h2 h3 h4 h5=>⟨by rw[<-h4.length];exact Ek h5.1 (by decide),?_⟩);apply AW.trans hs h2 h3;obtain⟨a,b⟩:=h1.push (s:=AJ) {cls:=.type "tuple",data:=.seq vs.toArray};refine AW.next (t:=AJ.toks) h1 a.rs b ?_ h5.2;simp only[AZ];exact(BK _ vs.toArray 0 (BR rfl (MA h1.rs) (Dx _ rfl) (b.F8 h1.rs (λZ q=>q.elim) h4)))
theorem RS.newList(r:RS w h₀ D h V)(n:Nat)(hv:AY w D h CY vs):
 RS w h₀ (λb=>D b\/b=h.objs.size) (h.push (GN vs.toArray n)) (V.set h.objs.size (.list CY))/\Step Ff D h V (λb=>D b\/b=h.objs.size) (h.push (GN vs.toArray n)) (V.set h.objs.size (.list CY)):=by
 refine r.alloc (N:=λb=>b=h.objs.size) (λa o e=>DD _ e) (λb e=>by subst e;exact⟨(FA h),⟨_,(Dx _ rfl)⟩⟩) rfl ?_ (λd e=>by exact nS e);refine(Aj vs.toArray n ⟨(Dx _ rfl),(AY.mono (λa o Z e=>DD _ e) (λa o e n' q=>?_) _ _ hv)⟩);rcases q with q|q
 ·exact n' q
 ·exact absurd (EF e) (by refine AD q ?_;exact G0 _)
theorem Zm:∀{m x v},BG m x=true->CT (DS m x v) x=some v
 |(y,o)::r,x,v,h=>by
  simp only[Kn];simp only[I8]at h;by_cases e:y=x
  ·simp[e,Km]
  ·simp only[e,if_false]at h|-;simp only[Km,e,if_false];exact Zm h
theorem RX:∀{m x y v},y≠x->CT (DS m x v) y=CT m y
 |[],_,_,_,_=>rfl
 |(z,o)::r,x,y,v,h=>by
  simp only[Kn];by_cases e:z=x
  ·subst e;simp[Km,HU h]
  ·simp only[e,if_false,Km];by_cases e':z=y
   ·simp[e']
   ·simp only[e',if_false];exact RX h
theorem RY:∀{m x y v},BG (DS m x v) y=BG m y
 |[],_,_,_=>rfl
 |(z,o)::r,x,y,v=>by
  simp only[Kn];by_cases e:z=x
  ·subst e;simp[I8]
  ·simp only[e,if_false,I8];exact AD RY rfl
theorem SA(hs:St X D s.heap V m)(hv:VR X.w D s.heap mv v)(hx:BG m x=true)(q:Q () V (DS m x mv)):
 Aq (A7 BJ X.w) X.A (storeName X.env x v) (AW X RU D s V Q) Dr s:=by
 have fin:∀h' b t,Own X.env b->(∀c,c≠b->h'.get? c=s.heap.get? c)->(∃o,h'.get? b=some o)->FR X.w X.env D h' V (DS m x mv)->AW X RU D s V Q () {s with heap:=h',toks:=t}:=by
  intro h' b t ob hk hz hf;have lv:∀c o,s.heap.get? c=some o->∃o',h'.get? c=some o':=λc o q=>by
   by_cases z:c=b
   ·exact z▸hz
   ·exact⟨o,(hk c z).trans q⟩
  obtain st:Step (Own X.env) D s.heap V D h' V:=⟨λZ d Z=>d,λZ d=>.inl d,λZ f=>.inl f,λa o e Z no=>(hk a (λq=>no (q▸ob))).trans e,lv⟩;have nb:∀a,¬D a->a≠b:=λa n q=>n (q▸(hs.fr.own b ob).1);have nf:∀a,foot V a->a≠b:=λa n q=>(hs.fr.own b ob).2 (q▸n);have r:RS X.w X.h₀ D h' V:=⟨λa d=>(by obtain⟨o,q⟩:=hs.rs.live a d;exact lv a o q),λa o e=>⟨(hk a (nb a (hs.rs.base a o e).2)).trans (hs.rs.base a o e).1,(hs.rs.base a o e).2⟩,
   λa o e=>⟨(hs.rs.obj a o e).1,OR.mono (λa o n e=>(hk a (nb a n)).trans e) (λZ Z Z n=>n) (λo' e'=>(hk a (nf a (.inl ⟨o,e⟩))).trans e')
    (λc d ks vs q o' e'=>(hk d (nf d (.inr (Ar a c ks vs (q▸e))))).trans e') (hs.rs.obj a o e).2⟩,hs.rs.E8⟩
  exact(Ar () V (DS m x mv) D (An ⟨r,hf,hs.bs,hs.ok,hs.gl,λy hy=>hs.kd y (by rwa[RY]at hy)⟩ st ⟨rfl,rfl,rfl⟩ trivial q))
 have vm:∀h' b,Own X.env b->(∀c,c≠b->h'.get? c=s.heap.get? c)->∀mv v,VR X.w D s.heap mv v->VR X.w D h' mv v:=λh' b ob hk mv v r=>
  VR.mono (λa o n e=>(hk a (λq=>n (q▸(hs.fr.own b ob).1))).trans e) (λZ Z Z n=>n) mv v r
 have f:=hs.fr;(refine AI f.ns λmr A9=>?_;refine BQ A9 λns hm=>?_);rcases f.kn x hx with k|⟨k,c,hc⟩
 ·refine qR k ns (λh' hn Dt=>?_) (by refine AD f.kind ?_;rfl);refine fin h' X.env.locals _ (.inl rfl) Dt.2 ((by(refine A1 hn λo Z Z AX=>?_;refine BQ AX λq Z=>?_);exact⟨o,q⟩)) ⟨f.kind,f.glob,f.G7,f.own,⟨_,⟨hn,(λy F5 e k'=>?_)⟩⟩,λy F5 e=>?_,λy hy=>f.kn y (by rwa[RY]at hy),λy c hc=>?_,f.apart⟩
  ·by_cases z:y=x
   ·subst z;rw[Zm hx]at e;(have zI:=Au e;(try clear e;subst zI));exact⟨v,⟨(by simp),(vm h' _ (.inl rfl) Dt.2 _ _ hv)⟩⟩
   ·rw[RX z]at e;(refine AI (hm y F5 e k') λv' Ai=>?_;refine BQ Ai λa b=>?_);exact⟨v',⟨(by simp[z,a]),(vm h' _ (.inl rfl) Dt.2 _ _ b)⟩⟩
  ·by_cases z:y=x
   ·subst z;exact .inl k
   ·rw[RX z]at e;rcases f.cell y F5 e with k'|⟨c,v',a,⟨o,b1,b2⟩,r⟩
    ·exact .inl k'
    ·refine .inr (Aj c v' (AO a ⟨o,⟨((Dt.2 c ?_).trans b1),b2⟩⟩ (vm h' _ (.inl rfl) Dt.2 _ _ r)));rintro rfl;(refine A1 ns λo' es ep A5=>?_;refine DF A5 λe1 e2 Z=>?_);rw[e1]at b1;cases b1;rw[e2]at b2;cases b2
  ·(refine Ao (f.cells y c hc) λv' o A6=>?_;refine BQ A6 λb1 b2=>?_);refine(Aj v' o ⟨((Dt.2 c ?_).trans b1),b2⟩);rintro rfl;(refine A1 ns λo' es ep A2=>?_;refine DF A2 λe1 e2 Z=>?_);rw[e1]at b1;cases b1;rw[e2]at b2;cases b2
 ·have ob:Own X.env c:=.inr ⟨x,hc⟩;obtain⟨Aq1,kK⟩:=f.cells x c hc;have nL:X.env.locals≠c:=by
   rintro rfl;(refine A1 ns λo' es ep BC=>?_;refine DF BC λe1 e2 Z=>?_);(refine AI kK λo BM=>?_;refine BQ BM λb1 b2=>?_);rw[e1]at b1;cases b1;rw[e2]at b2;cases b2
  have go:Aq (A7 BJ X.w) X.A (cellSet c (some v)) (AW X RU D s V Q) Dr s:=by
   refine wpAny_cellSet kK λh' C7 Dt=>fin h' c s.toks ob Dt.2 ((by(refine AI C7 λo A9=>?_;refine BQ A9 λq Z=>?_);exact⟨o,q⟩)) ⟨f.kind,f.glob,f.G7,f.own,⟨mr,⟨(ns.sameBut Dt nL),(λy F5 e k'=>?_)⟩⟩,λy F5 e=>?_,λy hy=>f.kn y (by rwa[RY]at hy),λy c' hc2=>?_,f.apart⟩
   ·have z:y≠x:=by rintro rfl;rw[k']at k;rcases k with k|k<;>cases k
    rw[RX z]at e;(refine AI (hm y F5 e k') λv' Bx=>?_;refine BQ Bx λa b=>?_);exact⟨v',⟨a,(vm h' _ ob Dt.2 _ _ b)⟩⟩
   ·by_cases z:y=x
    ·subst z;rw[Zm hx]at e;(have zI:=Au e;(try clear e;subst zI));exact .inr (Aj c v (AO hc C7 (vm h' _ ob Dt.2 _ _ hv)))
    ·rw[RX z]at e;rcases f.cell y F5 e with k'|⟨c',v',a,b,r⟩
     ·exact .inl k'
     ·refine .inr (Aj c' v' (AO a (b.sameBut Dt ?_) (vm h' _ ob Dt.2 _ _ r)));rintro rfl;exact z (name_of_addr f.apart (mem_of_lookup a) (mem_of_lookup hc))
   ·by_cases z:c'=c
    ·subst z;exact⟨_,C7⟩
    ·obtain⟨v',b⟩:=f.cells y c' hc2;exact⟨v',b.sameBut Dt z⟩
  unfold storeName;rcases k with k|k
  ·simp only[k,f.kind];exact Ae (wpAny_cellOf hc go)
  ·simp only[k,f.kind];exact Ae (wpAny_cellOf hc go)
end
section
variable{X:Cx}{V:Hp}{m:Lc}
theorem Ae0(q:Q .next V m):TR X RF (Fy [] X.env) V m Q:=λs D hs=>wpAny_execs_nil (AW.Cm (b:=Res.next) hs trivial q)
def we(AN:Hp->Lc->Prop)(Q:Res->Hp->Lc->Prop):Res->Hp->Lc->Prop
 | .next=>AN
 |r=>Q r
theorem Ad9{st AN Q}(h:TR X RF (Cj st X.env) V m (we (λV m=>TR X RF (Fy AN X.env) V m Q) Q)):
 TR X RF (Fy (st::AN) X.env) V m Q:=λs D hs=>by
 refine wpAny_execs_cons (TR.go h hs λf AJ r Ad m₁ Ac h1 h2 h3 h4 h5=>?_);cases r with
 |next=>cases f<;>first|exact h4.elim|exact TR.fin h5 h1 hs h2 h3
 |brk=>cases f<;>first|exact h4.elim|exact(Ar _ Ad m₁ Ac (An h1 h2 h3 h4 h5))
 |cont=>cases f<;>first|exact h4.elim|exact(Ar _ Ad m₁ Ac (An h1 h2 h3 h4 h5))
 |ret v=>cases f<;>first|exact h4.elim|exact(Ar _ Ad m₁ Ac (An h1 h2 h3 h4 h5))
theorem pd(h:TR X VR (Ab Bv X.env) V m λv V m=>BG m x=true/\Q .next V (DS m x v))
 (FH:HJ Bv (some (TH x p')) pos.line X.env=pure false):TR X RF (Cj (.Assign [.Name x p'] Bv pos) X.env) V m Q:=λs D hs=>by
 refine wpAny_Assign_Name (TR.go h hs λv AJ mv Ad m₁ Ac h1 h2 h3 h4 h5=>?_) FH;refine Bz (SA (Q:=λZ V m=>Q .next V m) h1 h4 h5.1 h5.2) (λZ A8 p=>?_) λZ Z x=>x.elim;(refine Bc p λb AE m' D' Af=>?_;obtain g1:=Af.1;obtain g2:=Af.2.1;obtain g3:=Af.2.2.1;obtain g4:=Af.2.2.2.1;obtain g5:=Af.2.2.2.2;clear Af;try clear p);exact(Ar .next AE m' D' (An g1 (h2.trans hs.rs.live g2) (h3.trans g3) trivial g5))
theorem Ac4(h:TR X VR (Ab e X.env) V m λv=>Q (.ret v)):TR X RF (Cj (.Return (some e) pos) X.env) V m Q:=λs D hs=>
 wpAny_Return_some (TR.go h hs λv AJ mv Ad m₁ Ac h1 h2 h3 h4 h5=>(Ar (.ret mv) Ad m₁ Ac (An h1 h2 h3 h4 h5)))
theorem Ac5(q:Q (.ret .none) V m):TR X RF (Cj (.Return none pos) X.env) V m Q:=λs D hs=>
 wpAny_Return_none (AW.Cm (b:=Res.ret .none) hs (rfl:T9=T9) q)
theorem Aa7(q:Q .brk V m):TR X RF (Cj (.Break pos) X.env) V m Q:=λs D hs=>wpAny_Break (AW.Cm (b:=Res.brk) hs trivial q)
theorem Ac3(q:Q .next V m):TR X RF (Cj (.Pass pos) X.env) V m Q:=λs D hs=>wpAny_Pass (AW.Cm (b:=Res.next) hs trivial q)
theorem Ab6
 (h:TR X RB (Fv t X.env (Ab t X.env)) V m λb V m=>if b=true then TR X RF (Fy body X.env) V m Q else TR X RF (Fy orelse X.env) V m Q):TR X RF (Cj (.If t body orelse pos) X.env) V m Q:=λs D hs=>by
 refine wpAny_If (TR.go h hs λb AJ b' Ad m₁ Ac h1 h2 h3 h4 h5=>?_);cases(show b=b' from h4);cases b with
 |true=>exact TR.fin h5 h1 hs h2 h3
 |false=>exact TR.fin h5 h1 hs h2 h3
theorem Ab7
 (h:TR X RB (Fv t X.env (Ab t X.env)) V m λb V m=>if b=true then TR X VR (Ab body X.env) V m Q else TR X VR (Ab orelse X.env) V m Q):TR X VR (Ab (.IfExp t body orelse pos) X.env) V m Q:=λs D hs=>by
 refine wpAny_IfExp (TR.go h hs λb AJ b' Ad m₁ Ac h1 h2 h3 h4 h5=>?_);cases(show b=b' from h4);cases b with
 |true=>exact TR.fin h5 h1 hs h2 h3
 |false=>exact TR.fin h5 h1 hs h2 h3
def BO(X:Cx)(t:Ap->Ap->EG Ap)(a b:MV)(V:Hp)(m:Lc)(Q:MV->Hp->Lc->Prop):Prop:=
 ∀s D u v,St X D s.heap V m->VR X.w D s.heap a u->VR X.w D s.heap b v->Aq (A7 BJ X.w) X.A (t u v) (AW X VR D s V Q) Dr s
theorem Aa4
 (h:TR X VR (Ab l X.env) V m λa V m=>TR X VR (Ab r X.env) V m λb V m=>BO X (HX op) a b V m Q):TR X VR (Ab (.BinOp l op r pos) X.env) V m Q:=λs D hs=>by
 refine wpAny_BinOp (TR.go h hs λv AJ mv Ad m₁ Ac h1 h2 h3 h4 h5=>TR.go h5 h1 λu A8 mu Dq m₂ Bk g1 g2 g3 g4 g5=>?_);exact Bz (g5 A8 Bk v u g1 (g2.vr h1.rs h1.DT h4) g4) (λa Dp p=>AW.trans hs (h2.trans hs.rs.live g2) (h3.trans g3) p) λZ Z x=>x.elim
theorem Ab0
 (h:TR X VR (Ab l X.env) V m λa V m=>TR X VR (Ab r X.env) V m λb V m=>BO X (DZ op) a b V m Q) (hb:QY op r=false):TR X VR (Ab (.Compare l [op] [r] pos) X.env) V m Q:=λs D hs=>by
 refine wpAny_Compare1 (TR.go h hs λv AJ mv Ad m₁ Ac h1 h2 h3 h4 h5=>TR.go h5 h1 λu A8 mu Dq m₂ Bk g1 g2 g3 g4 g5=>?_) hb;exact Bz (g5 A8 Bk v u g1 (g2.vr h1.rs h1.DT h4) g4) (λa Dp p=>AW.trans hs (h2.trans hs.rs.live g2) (h3.trans g3) p) λZ Z x=>x.elim
theorem Af3
 (h:TR X VR (Ab l X.env) V m λa V m=>TR X VR (Ab r X.env) V m λb V m=>BO X (DZ op) a b V m λc V m=>∃k,c=.bool k/\Q k V m) (hb:QY op r=false):
 TR X RB (Fv (.Compare l [op] [r] pos) X.env Nh) V m Q:=λs D hs=>by
 refine Aj6 (TR.go h hs λv AJ mv Ad m₁ Ac h1 h2 h3 h4 h5=>TR.go h5 h1 λu A8 mu Dq m₂ Bk g1 g2 g3 g4 g5=>?_) hb;refine Bz (g5 A8 Bk v u g1 (g2.vr h1.rs h1.DT h4) g4) (λa Dp p=>?_) λZ Z x=>x.elim;(refine Bc p λb AE m' D' AX=>?_;refine Cu AX λp1 p2 p3 p4 A9=>?_;refine AI A9 λk Ai=>?_;obtain Eb:=Ai.1;obtain p5:=Ai.2;clear Ai A9 AX;try clear p;subst Eb);simp only[AZ]at p4;subst p4;exact Pf (Ar k AE m' D' (An p1 ((h2.trans hs.rs.live g2).trans hs.rs.live p2) ((h3.trans g3).trans p3) rfl p5))
theorem Ae7(h:TR X RB (Fv x X.env (Ab x X.env)) V m λb=>Q (!b)):
 TR X RB (Fv (.UnaryOp .Not x pos) X.env Nh) V m Q:=λs D hs=>by
 refine wpAny_isTrue_Not (TR.go h hs λb AJ b' Ad m₁ Ac h1 h2 h3 h4 h5=>?_);cases(show b=b' from h4);exact⟨!b,Ad,m₁,Ac,h1,h2,h3,rfl,h5⟩
theorem Aa5(h:TR X RB (LR op vs X.env) V m Q):
 TR X RB (Fv (.BoolOp op vs pos) X.env Nh) V m Q:=λs D hs=>wpAny_isTrue_BoolOp (h s D hs)
theorem pk(q:Q true V m):TR X RB (LR .And [] X.env) V m Q:=λs D hs=>wpAny_allTrue_And_nil (AW.Cm hs rfl q)
theorem Ad2
 (h:TR X RB (Fv x X.env (Ab x X.env)) V m λb V m=>if b=true then TR X RB (LR .And AN X.env) V m Q else Q false V m):TR X RB (LR .And (x::AN) X.env) V m Q:=λs D hs=>by
 refine wpAny_allTrue_And_cons (TR.go h hs λb AJ b' Ad m₁ Ac h1 h2 h3 h4 h5=>?_);cases(show b=b' from h4);cases b with
 |true=>exact TR.fin h5 h1 hs h2 h3
 |false=>exact(Ar false Ad m₁ Ac (An h1 h2 h3 rfl h5))
theorem pz(q:Q false V m):TR X RB (LR .Or [] X.env) V m Q:=λs D hs=>wpAny_allTrue_Or_nil (AW.Cm hs rfl q)
theorem Ae8
 (h:TR X RB (Fv x X.env (Ab x X.env)) V m λb V m=>if b=true then Q true V m else TR X RB (LR .Or AN X.env) V m Q):TR X RB (LR .Or (x::AN) X.env) V m Q:=λs D hs=>by
 refine wpAny_allTrue_Or_cons (TR.go h hs λb AJ b' Ad m₁ Ac h1 h2 h3 h4 h5=>?_);cases(show b=b' from h4);cases b with
 |true=>exact(Ar true Ad m₁ Ac (An h1 h2 h3 rfl h5))
 |false=>exact TR.fin h5 h1 hs h2 h3
theorem Ad1(I:Nat->Hp->Lc->Prop)(n:Nat)(h0:I n V m)
 (turn:∀n V m,I n V m->TR X RB (Fv t X.env (Ab t X.env)) V m λb V m=>if b=true then TR X RF (Fy body X.env) V m (λr V m=>match r with
  | .next=>∃k,k<n/\I k V m
  | .cont=>∃k,k<n/\I k V m
  | .brk=>Q .next V m
  | .ret v=>Q (.ret v) V m)else TR X RF (Fy orelse X.env) V m Q):TR X RF (Cj (.While t body orelse pos) X.env) V m Q:=λs D hs=>by
 refine wpAny_While<|LV (codeAny_whileLoop (R:=λr s'=>match r with| .ok f=>AW X RF D s V Q f s'| .error _=>False)
  (λn AJ=>∃Ad m₁ Ac,St X Ac AJ.heap Ad m₁/\Step (Own X.env) D s.heap V Ac AJ.heap Ad/\CV s AJ/\I n Ad m₁) ?_ n (BK V m D (BR hs Step.refl CV.refl h0))) λr s' p=>?_
 ·intro n AJ Dh;(refine A1 Dh λAd m₁ Ac A6=>?_;obtain h1:=A6.1;obtain h2:=A6.2.1;obtain h3:=A6.2.2.1;obtain hI:=A6.2.2.2;clear A6;try clear Dh);refine TR.go (turn n Ad m₁ hI) h1 λb A8 b' Dq m₂ Bk g1 g2 g3 g4 g5=>?_;cases(show b=b' from g4);cases b with
  |true=>
   rw[if_pos rfl]at g5|-;refine TR.go g5 g1 λf Dp r Gd Hk Fq k1 k2 k3 k4 k5=>?_;have st:=(h2.trans hs.rs.live g2).trans hs.rs.live k2;have sr:=(h3.trans g3).trans k3;cases r<;>cases f<;>first|exact k4.elim|skip
   ·(refine AI k5 λk A2=>?_;obtain a:=A2.1;obtain b:=A2.2;clear A2;try clear k5);exact⟨k,⟨a,(BK Gd Hk Fq (BR k1 st sr b))⟩⟩
   ·exact(Ar .next Gd Hk Fq (An k1 st sr trivial k5))
   ·(refine AI k5 λk BC=>?_;obtain a:=BC.1;obtain b:=BC.2;clear BC;try clear k5);exact⟨k,⟨a,(BK Gd Hk Fq (BR k1 st sr b))⟩⟩
   ·exact(Ar (.ret _) Gd Hk Fq (An k1 st sr k4 k5))
  |false=>
   rw[if_neg (by decide)]at g5|-;exact TR.fin g5 g1 hs (h2.trans hs.rs.live g2) (h3.trans g3)
 ·cases r with
  |ok f=>exact p
  |error e=>exact p.elim
end
section
variable{X:Cx}{V:Hp}{m:Lc}{Q:MV->Hp->Lc->Prop}
theorem DB:VR w D h (.int i) (.int i t):=by simp only[AZ];exact⟨t,rfl⟩
theorem Fn:VR w D h (.bool b) (.bool b):=by simp only[AZ]
theorem AK5(q:Q (.int (a+b)) V m):BO X (HX .Add) (.int a) (.int b) V m Q:=by
 intro s D u v hs hu hv;simp only[AZ]at hu hv;obtain⟨t,rfl⟩:=hu;obtain⟨t',rfl⟩:=hv;exact add_int (AW.here hs DB q)
theorem AL9(q:Q (.int (a-b)) V m):BO X (HX .Sub) (.int a) (.int b) V m Q:=by
 intro s D u v hs hu hv;simp only[AZ]at hu hv;obtain⟨t,rfl⟩:=hu;obtain⟨t',rfl⟩:=hv;exact sub_int (AW.here hs DB q)
theorem AL4(h1:-(2^64)<a)(h2:a<2^64)(q:Q (.int (a*b)) V m):BO X (HX .Mult) (.int a) (.int b) V m Q:=by
 intro s D u v hs hu hv;simp only[AZ]at hu hv;obtain⟨t,rfl⟩:=hu;obtain⟨t',rfl⟩:=hv;exact mul_int (AW.here hs DB q) (Ao6 (PySem.intBits_le_64 h1 h2))
theorem AL3(h1:b≠0)(q:Q (.int (a.fmod b)) V m):BO X (HX .Mod) (.int a) (.int b) V m Q:=by
 intro s D u v hs hu hv;simp only[AZ]at hu hv;obtain⟨t,rfl⟩:=hu;obtain⟨t',rfl⟩:=hv;exact mod_int' h1 (AW.here hs DB q)
theorem AK3(h:y.natAbs<2^64):r8 x y=false:=by
 unfold r8;have:¬(if(y==0)=true then 0 else y.natAbs.log2/30+1)>300:=by
  split
  ·decide
  ·have:=Nat.log2_lt (n:=y.natAbs) (k:=64) (by rename_i hy;intro e;exact hy (by simp[Int.natAbs_eq_zero.mp e])) |>.mpr h
   omega
 simp only[this,decide_false,Nz]
theorem AK9(h1:b≠0)(h2:b.natAbs<2^64)(q:Q (.int (a.fdiv b)) V m):BO X (HX .FloorDiv) (.int a) (.int b) V m Q:=by
 intro s D u v hs hu hv;simp only[AZ]at hu hv;obtain⟨t,rfl⟩:=hu;obtain⟨t',rfl⟩:=hv;exact floordiv_int h1 (AW.here hs DB q) (.inl (AK3 h2))
theorem AL7(h0:0<=b)(h1:b<=1000000)(h2:a.natAbs<2^64)(q:Q (.int (a^b.toNat)) V m):BO X (HX .Pow) (.int a) (.int b) V m Q:=by
 intro s D u v hs hu hv;simp only[AZ]at hu hv;obtain⟨t,rfl⟩:=hu;obtain⟨t',rfl⟩:=hv;exact pow_int_small h0 h1 h2 (AW.here hs DB q)
theorem AL8(h0:0<=b)(q:Q (.int (a.fdiv (2^b.toNat))) V m):BO X (HX .RShift) (.int a) (.int b) V m Q:=by
 intro s D u v hs hu hv;simp only[AZ]at hu hv;obtain⟨t,rfl⟩:=hu;obtain⟨t',rfl⟩:=hv;exact rshift_int h0 (AW.here hs DB q)
theorem AK7(q:Q (.int (eT a b)) V m):BO X (HX .BitAnd) (.int a) (.int b) V m Q:=by
 intro s D u v hs hu hv;simp only[AZ]at hu hv;obtain⟨t,rfl⟩:=hu;obtain⟨t',rfl⟩:=hv;exact and_int (AW.here hs DB q)
theorem vQ(q:Q (.bool (a==b)) V m):BO X (DZ .Eq) (.int a) (.int b) V m Q:=by
 intro s D u v hs hu hv;simp only[AZ]at hu hv;obtain⟨t,rfl⟩:=hu;obtain⟨t',rfl⟩:=hv;exact eq_int (AW.Cm hs Fn q)
theorem vd(q:Q (.bool (a != b)) V m):BO X (DZ .NotEq) (.int a) (.int b) V m Q:=by
 intro s D u v hs hu hv;simp only[AZ]at hu hv;obtain⟨t,rfl⟩:=hu;obtain⟨t',rfl⟩:=hv;exact ne_int (AW.Cm hs Fn q)
theorem vc(q:Q (.bool (decide (a<b))) V m):BO X (DZ .Lt) (.int a) (.int b) V m Q:=by
 intro s D u v hs hu hv;simp only[AZ]at hu hv;obtain⟨t,rfl⟩:=hu;obtain⟨t',rfl⟩:=hv;exact wpAny_lt_int (AW.Cm hs Fn q)
theorem vb(q:Q (.bool (decide (a<=b))) V m):BO X (DZ .LtE) (.int a) (.int b) V m Q:=by
 intro s D u v hs hu hv;simp only[AZ]at hu hv;obtain⟨t,rfl⟩:=hu;obtain⟨t',rfl⟩:=hv;exact le_int (AW.Cm hs Fn q)
theorem vW(q:Q (.bool (decide (b<a))) V m):BO X (DZ .Gt) (.int a) (.int b) V m Q:=by
 intro s D u v hs hu hv;simp only[AZ]at hu hv;obtain⟨t,rfl⟩:=hu;obtain⟨t',rfl⟩:=hv;exact gt_int (AW.Cm hs Fn q)
theorem vV(q:Q (.bool (decide (b<=a))) V m):BO X (DZ .GtE) (.int a) (.int b) V m Q:=by
 intro s D u v hs hu hv;simp only[AZ]at hu hv;obtain⟨t,rfl⟩:=hu;obtain⟨t',rfl⟩:=hv;exact ge_int (AW.Cm hs Fn q)
end
def QL(w:CE)(h₀:BU)(D:AU->Prop)(s:Bq)(V:Hp)(Q:MV->Hp->Prop)(v:Ap)(s':Bq):Prop:=
 ∃mv AE D',RS w h₀ D' s'.heap AE/\Step Ff D s.heap V D' s'.heap AE/\CV s s'/\VR w D' s'.heap mv v/\Q mv AE
def uX(w:CE)(h₀:BU)(D:AU->Prop)(s:Bq)(V:Hp)(Q:MV->Hp->Prop):Result->Bq->Prop
 | .ok (.ret v),s'=>QL w h₀ D s V Q v s'
 |_,_=>False
def Ag(w:CE)(h₀:BU)(n:Nat)(f:AU)(args:List MV)(V:Hp)(Q:MV->Hp->Prop):Prop:=
 ∀A s D vs,JQ A n->BS w h₀->RS w h₀ D s.heap V->AY w D s.heap args vs->GI (A7 BJ w) A (.call (.ref f) ⟨vs,[]⟩) (uX w h₀ D s V Q) s
theorem Ag.call(h:Ag w h₀ n f args V Q)(a:JQ A n)(b:BS w h₀)(c:RS w h₀ D s.heap V)(d:AY w D s.heap args vs):
 Aq (A7 BJ w) A (fx (.ref f) vs) (QL w h₀ D s V Q) Dr s:=qN (LV (h A s D vs a b c d) λr s' p=>by
 rcases r with e|(v|_|_|_)<;>exact p)
theorem Ag.mono(h:Ag w h₀ n f args V Q)(k:∀v AE,Q v AE->Q' v AE):Ag w h₀ n f args V Q':=
 λA s D vs a b c d=>LV (h A s D vs a b c d) λr s' p=>by
  rcases r with e|(v|_|_|_)<;>first|exact p.elim|exact((by(refine A1 p λmv AE D' AR=>?_;obtain h1:=AR.1;obtain h2:=AR.2.1;obtain h3:=AR.2.2.1;obtain h4:=AR.2.2.2.1;obtain h5:=AR.2.2.2.2;clear AR;try clear p);exact(BK mv AE D' (An h1 h2 h3 h4 (k _ _ h5)))))
theorem AW.aB(hs:St X D s.heap V m)(p:QL X.w X.h₀ D s V (λv V=>Q v V m) v s'):AW X VR D s V Q v s':=
 (by(refine A1 p λmv AE D' Af=>?_;obtain h1:=Af.1;obtain h2:=Af.2.1;obtain h3:=Af.2.2.1;obtain h4:=Af.2.2.2.1;obtain h5:=Af.2.2.2.2;clear Af;try clear p);exact(Ar mv AE m D' (An (hs.next h1 h2) h2.Hn h3 h4 h5)))
theorem lX{α β:Type}[Decidable c]{f g:α->β}{x:α}{v:β}(hf:f x=v)(hg:g x=v):(if c then f else g) x=v:=by
 by_cases h:c
 ·rw[if_pos h];exact hf
 ·rw[if_neg h];exact hg
theorem vJ(k:AV->Option JW)(b:List (AV×Ap)):∀m x,x∉b.map (·.1)->bindL k b m x=m x:=by
 induction b with
 |nil=>exact λZ Z Z=>rfl
 |cons p r ih=>exact λm x h=>(ih _ x λe=>h (.tail _ e)).trans (lX (if_neg λ(e:x=p.1)=>h (e▸.head _)) rfl)
theorem vH(k:AV->Option JW)(b:List (AV×Ap)):∀m x,x∉b.map (·.1)->bindC k b m x=m x:=by
 induction b with
 |nil=>exact λZ Z Z=>rfl
 |cons p r ih=>exact λm x h=>(ih _ x λe=>h (.tail _ e)).trans (lX rfl (if_neg λ(e:x=p.1)=>h (e▸.head _)))
theorem vI(k)(b):∀m x v,(b.map (·.1)).Nodup->(x,v)∈b->k x=some .local->bindL k b m x=some v:=by
 induction b with
 |nil=>exact λZ Z Z Z hm Z=>nomatch hm
 |cons p r ih=>
  intro m x v hn hm hk;have hn:=LJ.mp hn;refine(CH.mp hm).elim (λe=>?_) λe=>ih _ x v hn.2 e hk;subst e;apply(vJ k r _ x hn.1).trans;show(if k x=some .local then(λy=>if y=x then some v else m y)else m) x=some v;rw[if_pos hk];exact if_pos rfl
theorem vG(k)(b):∀m x v,(b.map (·.1)).Nodup->(x,v)∈b->k x≠some .local->bindC k b m x=some v:=by
 induction b with
 |nil=>exact λZ Z Z Z hm Z=>nomatch hm
 |cons p r ih=>
  intro m x v hn hm hk;have hn:=LJ.mp hn;refine(CH.mp hm).elim (λe=>?_) λe=>ih _ x v hn.2 e hk;subst e;apply(vH k r _ x hn.1).trans;show(if k x=some .local then m else(λy=>if y=x then some v else m y)) x=some v;rw[if_neg hk];exact if_pos rfl
theorem AG2{acc:List (AV×AU)}(h:(acc.lookup x).isSome=true):((a::acc).lookup x).isSome=true:=by
 rw[LH];cases x==a.1 with
 |true=>rfl
 |false=>exact h
theorem vy(names:List (AV×JW)):∀n acc,(acc.lookup x).isSome=true->((ON n names acc).lookup x).isSome=true:=by
 induction names with
 |nil=>exact λZ Z h=>h
 |cons p r ih=>
  intro n acc h;show((if p.2==.cell then ON (n+1) r ((p.1,n)::acc)else ON n r acc).lookup x).isSome=true;cases p.2==Mp with
  |true=>exact ih _ _ (AG2 h)
  |false=>exact ih _ _ h
theorem Xs(names):∀n acc,names.lookup x=some .cell->((ON n names acc).lookup x).isSome=true:=by
 induction names with
 |nil=>exact λZ Z h=>nS h
 |cons p r ih=>
  intro n acc h;rw[LH]at h;show((if p.2==.cell then ON (n+1) r ((p.1,n)::acc)else ON n r acc).lookup x).isSome=true;cases e:x==p.1 with
  |true=>
   rw[e]at h;rw[show p.2=.cell from Au h];exact vy r _ _ (by rw[LH,e];rfl)
  |false=>
   rw[e]at h;cases p.2==Mp with
   |true=>exact ih _ _ h
   |false=>exact ih _ _ h
noncomputable def L0(ps:List AV)(ms:List MV)(ls:List AV):Lc:=(ps.zip ms).map (λp=>(p.1,some p.2))++ls.map λx=>(x,none)
theorem mF(ls:List AV)(x:AV):CT (ls.map λx=>(x,none)) x=none:=by
 induction ls with
 |nil=>rfl
 |cons y r ih=>
  show(if y=x then none else CT (r.map λx=>(x,none)) x)=none;rw[ih,ite_self]
theorem mG(ls:List AV)(x:AV):BG (ls.map λx=>(x,none)) x=true->x∈ls:=by
 induction ls with
 |nil=>exact λh=>fT h
 |cons y r ih=>
  show(if y=x then true else BG (r.map λx=>(x,none)) x)=true->_;by_cases e:y=x
  ·exact λZ=>e▸.head _
  ·rw[if_neg e];exact λh=>.tail _ (ih h)
theorem Zr(ps)(ls:List AV)(x:AV):∀ms,BG (L0 ps ms ls) x=true->x∈ps++ls:=by
 induction ps with
 |nil=>exact λZ h=>mG ls x h
 |cons p ps ih=>
  intro ms;cases ms with
  |nil=>exact λh=>List.mem_append_right _ (mG ls x h)
  |cons m ms=>
   show(if p=x then true else BG (L0 ps ms ls) x)=true->_;by_cases e:p=x
   ·exact λZ=>e▸.head _
   ·rw[if_neg e];exact λh=>.tail _ (ih ms h)
theorem mE(ls)(x)(mv:MV)(ps:List AV):∀ms vs,AY w D h ms vs->CT (L0 ps ms ls) x=some mv->∃v,(x,v)∈ps.zip vs/\VR w D h mv v:=by
 induction ps with
 |nil=>exact λZ Z Z e=>nS ((mF ls x).symm.trans e)
 |cons p ps ih=>
  intro ms vs r;cases ms with
  |nil=>exact λe=>nS ((mF ls x).symm.trans e)
  |cons m ms=>
   cases vs with
   |nil=>exact r.elim
   |cons v vs=>
    show(if p=x then some m else CT (L0 ps ms ls) x)=some mv->_;by_cases e:p=x
    ·rw[if_pos e];exact λh=>⟨v,e▸.head _,Au h▸r.1⟩
    ·rw[if_neg e];exact λh=>(ih ms vs r.2 h).elim λv' z=>⟨v',.tail _ z.1,z.2⟩
structure FD(P:Fu)(f:AU)(fd:FuncData)(body:List E5):Prop where
 look:∃oc od sl,(KK P).lookup f=some ⟨oc,od,.func fd,sl⟩
 code:hZ (KK P) fd.code fd.qualname=true
 body:fd.body=.stmts body
 wK:fd.closure=[]
 glob:fd.globals=Ea
 G7:fd.builtins=UJ
 co:fd.scope.isCoroutine=false
 gen:fd.scope.isGenerator=false
 kind:fd.scope.kind=.function
noncomputable def ZS(names:List (AV×JW))(C xs:List AV):Bool:=xs.all λx=>if C.contains x then names.lookup x==some .cell else names.lookup x==some .local
def AR8(Q:MV->Hp->Prop):Res->Hp->Lc->Prop
 | .ret v,V,_=>Q v V
 | .next,V,_=>Q .none V
 |_,_,_=>False
theorem Step.noOwn(s:Step own D h V D' h' AE)(n:∀a,own a->h.get? a=none):Step Ff D h V D' h' AE:=
 ⟨s.GJ,s.H9,s.F0,λa o e f Z=>s.keep a o e f (λq=>CO e (n a q)),s.live⟩
theorem AY.append:∀{a u b v},AY w D h a u->AY w D h b v->AY w D h (a++b) (u++v)
 |[],[],_,_,_,y=>y
 |_::_,_::_,_,_,x,y=>by simp only[BD,GD]at x|-;exact⟨x.1,AY.append x.2 y⟩
 |[],_::_,_,_,x,_=>by simp only[BD]at x
 |_::_,[],_,_,x,_=>by simp only[BD]at x
theorem rf:∀(ps:List AV)(vs:List Ap),ps.Nodup->((ps.zip vs).map (·.1)).Nodup
 |[],_,_=>by simp
 |_::_,[],_=>by simp
 |p::ps,v::vs,h=>by
  simp only[LJ]at h;simp only[List.zip_cons_cons,By,LJ];refine⟨λq=>?_,rf ps vs h.2⟩;(refine AI (DJ.mp q) λNl AX=>?_;obtain c:=AX.1;obtain e:=AX.2;clear AX;obtain⟨a,b⟩:=Nl);exact h.1 (e▸(tg c).1)
theorem yR
 (F:FD w.params f fd body)
 (Yl:∀vs:List Ap,vs.length=HD.length->∀S,peek (KK w.params) S (gV fd ⟨vs,[]⟩)=some (ps.zip (vs++dv)))
 (Yo:∀D h,AY w D h dm dv)
 (NH:ps.Nodup) (hk:ZS fd.scope.names C (ps++ls)=true) (hG:G.all (λx=>fd.scope.names.lookup x==some .globalImplicit)=true)
 (h:∀A env,env=callEnvC fd env.locals f->TR ⟨w,h₀,n,A,env,G,C⟩ RF (Fy body env) V (L0 ps (HD++dm) ls) (AR8 Q)):Ag w h₀ (n+1) f HD V Q:=by
 intro A s D vs hA B r hv
 (refine A1 F.look λoc od sl hl=>?_)
 have KI:(KK w.params).In s.heap:=B.K.keeps λa o e=>(r.base a o e).1
 refine codeAny_call_function (by have:=hA.2.1;show A.depth<1000;exact AM 0x401143ef8f200238f4f2121034600309 rfl this) (KI _ _ hl) rfl F.co F.gen F.body (codeRec_of KI F.code)<|kp_binds KI (Yl vs hv.length.symm) _ _ _ _<|AD F.wK ?_
 have kX:∀x∈ps++ls,if C.contains x=true then fd.scope.names.lookup x=some .cell else fd.scope.names.lookup x=some .local:=λx hx=>by
  have:=Il.mp hk x hx
  split at this<;>rename_i q
  ·refine AD (if_pos q) ?_;exact beq_iff_eq.mp this
  ·refine AD (if_neg q) ?_;exact beq_iff_eq.mp this
 have ID:∀x∈ps++ls,fd.scope.names.lookup x=some .local\/fd.scope.names.lookup x=some .cell:=λx hx=>by
  have:=kX x hx
  split at this
  ·exact .inr this
  ·exact .inl this
 obtain kb:∀x∈ps.zip (vs++dv),x.1∈ps:=λx hx=>by
  obtain⟨a,b⟩:=x;exact(tg hx).1
 refine wpAny_newFunctionEnv_cells F.kind (λx hx=>?_) λenv he s' x=>?_
 ·rcases ID x.1 (List.mem_append_left _ (kb x hx))with q|q
  ·exact .inl q
  ·exact .inr ⟨q,Xs _ _ _ q⟩
 have hL:env.locals=s.heap.objs.size:=by refine AD he ?_;rfl
 obtain heq:env=callEnvC fd env.locals f:=by refine AD hL ?_;exact he
 have EX:env.cells=ON (s.heap.objs.size+1) fd.scope.names []:=by refine AD he ?_;rfl
 have Lk:∀y,env.kindOf y=fd.scope.names.lookup y:=λy=>by refine AD he ?_;rfl
 have Y4:∀b,Own env b->s.heap.get? b=none/\∃o,s'.heap.get? b=some o:=λb hb=>by
  rcases hb with rfl|⟨y,hy⟩
  ·refine⟨by refine AD hL ?_;exact FA _,?_⟩
   (refine A1 x.toInCall.ns λo Z Z A9=>?_;refine BQ A9 λq Z=>?_;clear A9);exact⟨o,q⟩
  ·have h1:=x.above y b (mem_of_lookup hy)
   refine⟨?_,?_⟩
   ·cases e:s.heap.get? b with
    |none=>rfl
    |some o=>have:=EF e;rw[hL]at h1;exact absurd (Gf this h1) (G0 _)
   ·(refine AI (x.cell y b hy) λo Ai=>?_;refine BQ Ai λq Z=>?_;clear Ai)
    exact⟨o,q⟩
 (refine Ao x.toInCall.same λOu tk Eb=>?_;subst Eb)
 have keep:=x.toInCall.keep
 obtain⟨r1,ML⟩:=r.QX (N:=Own env) keep Y4
 obtain RA:=ML.F8 r (λZ q=>q.elim) hv
 have lG:AY w (λb=>D b\/Own env b) Ou (HD++dm) (vs++dv):=AY.append RA (Yo _ _)
 have nd:((ps.zip (vs++dv)).map (·.1)).Nodup:=rf ps _ NH
 have fr:FR w env (λb=>D b\/Own env b) Ou V (L0 ps (HD++dm) ls):=by
  refine⟨by refine AD he ?_;exact F.kind,by refine AD he ?_;exact F.glob,by refine AD he ?_;exact F.G7,λa o=>⟨.inr o,λq=>?_⟩,⟨_,⟨x.toInCall.ns,(λy mv e k=>?_)⟩⟩,λy mv e=>?_,λy hy=>?_,λy c hc=>⟨_,x.cell y c hc⟩,x.apart⟩
  ·obtain⟨o',e⟩:=Iw r q
   exact CO e (Y4 a o).1
  ·(refine AI (mE ls y mv ps _ _ lG e) λv A6=>?_;refine BQ A6 λa b=>?_;clear A6)
   exact⟨v,⟨(vI _ _ _ y v nd a k),b⟩⟩
  ·rcases ID y (Zr ps ls y _ (NQ e))with q|q
   ·exact .inl (by refine AG (Lk ..) ?_;exact q)
   ·(refine AI (mE ls y mv ps _ _ lG e) λv A2=>?_;refine BQ A2 λa b=>?_;clear A2)
    obtain⟨c,hc⟩:=Ms.mp (Xs (x:=y) fd.scope.names (s.heap.objs.size+1) [] q)
    have C7:env.cells.lookup y=some c:=by refine AD EX ?_;exact hc
    have:=x.cell y c C7
    rw[vG _ _ _ y v nd a (by rw[Lk,q];exact λz=>by cases z)]at this
    exact .inr (Aj c v (AO C7 this b))
  ·rcases ID y (Zr ps ls y _ hy)with q|q
   ·exact .inl (by apply AG (Lk ..);exact q)
   ·obtain⟨c,hc⟩:=Ms.mp (Xs (x:=y) fd.scope.names (s.heap.objs.size+1) [] q)
    exact .inr ⟨(.inl (by refine AG (Lk ..) ?_;exact q)),⟨c,(by refine AD EX ?_;exact hc)⟩⟩
 refine⟨B.lim.keeps λb o e=>keep b o (r.base b o e).1,codeAny_func ?_⟩
 obtain A':=(AO hA.1 (by have:=hA.2.1;show A.depth+1+4*n<=900;exact AM 0x11238f4f21046120033038f4f2121034600309 rfl this) (by have:=hA.2.2;show A.units+3+40*n<=9000;exact AM 0x11223f2f8f21028f6320033023f2f8f21210328f600309 rfl this))
 refine Bz (h (A.deeper env) env heq _ _ ⟨r1,fr,B,A',λx hx=>?_,λx hx=>?_⟩) (λfl A8 p=>?_) λZ Z z=>z.elim
 case refine_1=>
  refine AG (show(Cx.mk w h₀ n (A.deeper env) env G C).env.kindOf x=fd.scope.names.lookup x from Lk x)<|beq_iff_eq.mp (Il.mp hG x (by simpa using hx))
 case refine_2=>
  have:=kX x (Zr ps ls x _ hx)
  simp only[Lk x]
  split at this<;>rename_i q
  ·refine AD (if_pos q) ?_;exact .inl this
  ·refine AD (if_neg q) ?_;exact this
 (refine Bc p λrs AE m' D' BC=>?_;refine Cu BC λh1 h2 h3 h4 h5=>?_;clear BC;try clear p)
 have AA:Step Ff D s.heap V D' A8.heap AE:=(Step.trans r.live (ML.JA λZ q=>q.elim) h2).noOwn λa o=>(Y4 a o).1
 have sr:CV s A8:=⟨h3.gens,h3.drawn,h3.os⟩
 cases rs<;>cases fl<;>first|exact h4.elim|exact h5.elim|skip
 ·exact(BK .none AE D' (An h1.rs AA sr (by simp only[AZ]) h5))
 ·exact(BK _ AE D' (An h1.rs AA sr h4 h5))
theorem AT0{n:Nat}{k:Int}
 (ho:s.heap.get? l=some (GN items n)) (h0:0<=k) (kR:k<2^63) (hn:k<items.size)
 (hQ:∀h' n',h'.get? l=some (GN (items.setIfInBounds k.toNat v) n')->JT l s.heap h'->Q () {s with heap:=h'}):
 Aq (A7 prog w) A (oe (.ref l) (.int k t) v) Q E s:=by
 obtain hl:s.heap.IsList l items:=⟨_,(AO ho rfl ⟨n,rfl⟩)⟩;unfold oe;refine F9<|Ae (wpAny_sequenceKey hl.typeIs (by decide) ?_)
 refine Ae (wpAny_callSpecial?_slot (name:=CL "__setitem__") hl.typeIs AT9
  (Aj3 AT9 hl.typeIs entry_list_setitem ?_ (args_list_setitem _ _ _)))
 show Aq _ _ (An7 (.int k t)>>=_) _ _ s;refine Ae (wpAny_listSubscript_int (fitsIndex_of h0 kR) ?_);clear kR;obtain⟨j,rfl⟩:=LG h0;obtain hj:j<items.size:=by exact Sl hn
 obtain II:items[j]? =some items[j]:=Array.getElem?_eq_getElem hj;show Aq _ _ ((seqItemAt l j>>=λr=>pure (r.map (j,·)))>>=_) _ _ s;refine Ae (Ae (wpAny_seqItemAt ho rfl (BN ?_)));refine AD II ?_;show Aq _ _ (setSeqItemAt l j v>>=_) _ _ s;have Oi:(s.heap.update l (OE (·.setIfInBounds j v))).get? l=some (GN (items.setIfInBounds j v) n):=by
  refine AG (W' _ ho (by simp[OE,Obj.isFreed])) ?_;simp[OE]
 refine Ae (wpAny_setSeqItemAt ho rfl ?_);first
  |exact Ae (BN (BN ⟨.none,rfl,BN (hQ _ _ Oi (TQ ..))⟩))
  |exact BN ⟨.none,rfl,BN (hQ _ _ Oi (TQ ..))⟩
theorem AY.get:∀{ms:List MV}{vs:List Ap}{k:Nat}{m:MV},AY w D h ms vs->ms[k]? =some m->∃v,vs[k]? =some v/\VR w D h m v
 |_::_,_::_,0,_,x,e=>by simp only[BD]at x;(obtain zI:=Au e;subst zI);exact⟨_,⟨rfl,x.1⟩⟩
 |_::_,_::_,k+1,_,x,e=>by simp only[BD]at x;simp only[tV]at e|-;exact AY.get x.2 e
 |[],_,_,_,_,e=>by simp at e
 |_::_,[],_,_,x,_=>by simp only[BD]at x
theorem AY.set(hv:VR w D h m v):∀{ms vs}k,AY w D h ms vs->AY w D h (ms.set k m) (vs.set k v)
 |[],[],_,x=>x
 |_::_,_::_,0,x=>by simp only[BD,t5]at x|-;exact⟨hv,x.2⟩
 |_::_,_::_,k+1,x=>by simp only[BD,t4]at x|-;exact⟨x.1,AY.set hv k x.2⟩
 |[],_::_,_,x=>by simp only[BD]at x
 |_::_,[],_,x=>by simp only[BD]at x
def B_(V:Hp)(a:MV)(l:List MV):Prop:=a=.lst l\/∃x,a=.ref x/\V x=some (.list l)
theorem BY:B_ V (.lst l) l:=.inl rfl
theorem Bi(h:V x=some (.list l)):B_ V (.ref x) l:=.inr ⟨x,⟨rfl,h⟩⟩
section
variable{X:Cx}{V:Hp}{m:Lc}
theorem B_.at(x:B_ V a l)(r:RS w h₀ D h V)(hv:VR w D h a v):∃p xs n,v=.ref p/\h.get? p=some (GN xs n)/\AY w D h l xs.toList:=by
 rcases x with rfl|⟨p,rfl,e⟩
 ·simp only[AZ]at hv;(refine A1 hv λp xs n AR=>?_;obtain e:=AR.1;obtain g:=AR.2.2.1;obtain r:=AR.2.2.2;clear AR;try clear hv);exact(BK p xs n (AO e g r))
 ·simp only[AZ]at hv;(obtain Am8:=(r.obj p _ e);obtain Af:=Am8.2;refine Ao Af λxs n AX=>?_;obtain g:=AX.1;obtain r:=AX.2;clear AX Af);exact(BK p xs n (AO hv g r))
theorem Ac8
 (h:TR X VR (Ab Bv X.env) V m λa V m=>TR X VR (Ab slice X.env) V m λb V m=>BO X (J0 Bv slice) a b V m Q):TR X VR (Ab (.Subscript Bv slice pos) X.env) V m Q:=λs D hs=>by
 refine uk (TR.go h hs λv AJ mv Ad m₁ Ac h1 h2 h3 h4 h5=>TR.go h5 h1 λu A8 mu Dq m₂ Bk g1 g2 g3 g4 g5=>?_);exact Bz (g5 A8 Bk v u g1 (g2.vr h1.rs h1.DT h4) g4) (λa Dp p=>AW.trans hs (h2.trans hs.rs.live g2) (h3.trans g3) p) λZ Z x=>x.elim
def LN(slice:Expr):Prop:=∀o i,subscripted slice false o i=operate [o,i] (getItem o i)
theorem o_item(hl:B_ V a l)(h0:0<=k)(hk:k<2^63)(hx:l[k.toNat]? =some x)(q:Q x V m)(Cy:LN slice):
 BO X (J0 Bv slice) a (.int k) V m Q:=by
 intro s D u v hs hu hv;simp only[AZ]at hv;obtain⟨t,rfl⟩:=hv;(refine A1 (hl.at hs.rs hu) λp xs n A9=>?_;refine DF A9 λNk g r=>?_;clear A9;(try clear hu;subst Nk));(refine AI (r.get hx) λy A5=>?_;refine BQ A5 λe ry=>?_;clear A5);obtain hL:s.heap.IsList p xs:=⟨_,(AO g rfl ⟨n,rfl⟩)⟩;exact Vx hL.typeIs AT8.lookup (wpAny_getItem_list hL h0 hk (by refine AG (A0 (Ge)) ?_;exact e) (AW.Cm hs ry q)) (Cy _ _)
theorem AL1(hl:B_ V a l)(h0:k<0)(h1:-(l.length:Int)<=k)(hk:-2^63<=k)(hx:l[(k+l.length).toNat]? =some x)(q:Q x V m)(Cy:LN slice):
 BO X (J0 Bv slice) a (.int k) V m Q:=by
 intro s D u v hs hu hv;simp only[AZ]at hv;obtain⟨t,rfl⟩:=hv;(refine A1 (hl.at hs.rs hu) λp xs n A6=>?_;refine DF A6 λHv g r=>?_;clear A6;(try clear hu;subst Hv));(refine AI (r.get hx) λy BC=>?_;refine BQ BC λe ry=>?_;clear BC);have hL:s.heap.IsList p xs:=⟨_,(AO g rfl ⟨n,rfl⟩)⟩;have hlen:l.length=xs.size:=by apply AG r.length;simp
 exact Vx hL.typeIs AT8.lookup (wpAny_getItem_list_neg hL h0 (by refine AD (A0 hlen) ?_;exact h1) hk (by refine AG (A0 (Ge))<|AD (A0 hlen) ?_;exact e) (AW.Cm hs ry q)) (Cy _ _)
theorem AL2(hj:seqIndex? k l.length=some j)(Ca:-2^63<=k)(EY:k<2^63)(hx:l[j]? =some x)(q:Q x V m)(Cy:LN slice):
 BO X (J0 Bv slice) (.tup l) (.int k) V m Q:=by
 intro s D u v hs hu hv;simp only[AZ]at hv hu;obtain⟨t,rfl⟩:=hv;(refine A1 hu λp xs n BM=>?_;obtain Ht:=BM.1;obtain g:=BM.2.2.1;obtain r:=BM.2.2.2;clear BM;try clear hu;subst Ht);(refine AI (r.get hx) λy CB=>?_;obtain e:=CB.1;obtain ry:=CB.2;clear CB);obtain hT:IsTup s.heap p xs:=⟨_,(AO g rfl ⟨n,rfl⟩)⟩;obtain hlen:l.length=xs.size:=by rw[r.length];simp
 obtain hT':IsTup s.heap p xs.toList.toArray:=by simpa using hT
 exact item_tupleT hT' Ca EY (by rw[<-r.length];exact hj) e (AW.Cm hs ry q) (Cy _ _)
theorem AL0(h0:0<=k)(h1:k<l.length)(hz:l.length<=1000000)(q:Q (.int (l.getD k.toNat 0)) V m)(Cy:LN slice):
 BO X (J0 Bv slice) (.bytes l) (.int k) V m Q:=by
 intro s D u v hs hu hv;simp only[AZ]at hv hu;obtain⟨t,rfl⟩:=hv;(refine Ao hu λb t' Bj=>?_;obtain JL:=Bj.1;obtain Hu:=Bj.2;clear Bj;try clear hu;subst JL;subst Hu);obtain⟨bl⟩:=b;obtain ZG:bl.length<=1000000:=by simpa[Fs]using hz
 have e:(Fs ⟨bl⟩).getD k.toNat 0=((bl.getD k.toNat 0).toNat:Int):=by
  simp[Fs,Ej,EU];cases bl[k.toNat]? <;>simp
 refine Vx (typeIs_bytes _ _ _) FB.slot_bytes_getitem.lookup (getItem_bytes (l:=bl) (qp ZG) h0 (by simpa[Fs]using h1) ?_) (Cy _ _);rw[e]at q;exact AW.here hs DB q
def JY(X:Cx)(ov iv v:MV)(V:Hp)(m:Lc)(Q:Hp->Lc->Prop):Prop:=
 ∀s D u w x,St X D s.heap V m->VR X.w D s.heap ov u->VR X.w D s.heap iv w->VR X.w D s.heap v x->Aq (A7 BJ X.w) X.A (oe u w x) (AW X RU D s V λZ V m=>Q V m) Dr s
theorem Aa0
 (h:TR X VR (Ab Bv X.env) V m λv V m=>TR X VR (Ab o X.env) V m λa V m=>TR X VR (Ab i X.env) V m λb V m=>JY X a b v V m λV m=>Q .next V m)
 (FH:HJ Bv (some (Expr.Subscript o i p')) pos.line X.env=pure false):TR X RF (Cj (.Assign [.Subscript o i p'] Bv pos) X.env) V m Q:=λs D hs=>by
 refine wpAny_Assign_Subscript (TR.go h hs λv AJ mv Ad m₁ Ac h1 h2 h3 h4 h5=>TR.go h5 h1 λu A8 mu Dq m₂ Bk g1 g2 g3 g4 g5=>TR.go g5 g1 λx Dp mx Gd Hk Fq k1 k2 k3 k4 k5=>?_) FH;obtain st:=(h2.trans hs.rs.live g2).trans hs.rs.live k2;refine Bz (k5 Dp Fq u x v k1 (k2.vr g1.rs g1.DT g4) k4 (k2.vr g1.rs g1.DT (g2.vr h1.rs h1.DT h4))) (λZ GX p=>?_) λZ Z x=>x.elim;(refine Bc p λb AE m' D' Cg=>?_;obtain p1:=Cg.1;obtain p2:=Cg.2.1;obtain p3:=Cg.2.2.1;obtain p4:=Cg.2.2.2.1;obtain p5:=Cg.2.2.2.2;clear Cg;try clear p);exact(Ar .next AE m' D' (An p1 (st.trans hs.rs.live p2) (((h3.trans g3).trans k3).trans p3) trivial p5))
theorem AP2{k:Int}(e:V a=some (.list l))(h0:0<=k)(hk:k<2^63)(h1:k<l.length)(q:Q (V.set a (.list (l.set k.toNat v))) m):JY X (.ref a) (.int k) v V m Q:=by
 intro s D u w x hs hu hw hx;simp only[AZ]at hu hw;subst hu;obtain⟨t,rfl⟩:=hw
 (obtain Am9:=(hs.rs.obj a _ e);obtain Bt:=Am9.2;refine Ao Bt λxs n DU=>?_;obtain g:=DU.1;obtain r:=DU.2;clear DU Bt)
 obtain hlen:l.length=xs.size:=by apply AG r.length;simp
 refine AT0 g h0 hk (by refine AD (A0 hlen) ?_;exact h1) λh' n' g' sb=>?_
 obtain⟨r1,s1⟩:=hs.rs.upd (CS:=.list (l.set k.toNat v)) (b:=a) (h':=h') e rfl rfl (λc o ne q=>(sb.2 c ne).trans q) ⟨_,n',g',by
  obtain Ce:∀c,¬D c->c≠a:=λc nd z=>nd (z▸(hs.rs.obj a _ e).1);obtain mono:=λmv v y=>VR.mono (λc o nd q=>(sb.2 c (Ce c nd)).trans q) (λZ Z Z z=>z) mv v y;obtain VI:=λmv v y=>AY.mono (λc o nd q=>(sb.2 c (Ce c nd)).trans q) (λZ Z Z z=>z) mv v y;refine AD Array.toList_setIfInBounds<|AY.set (mono _ _ hx) _ (VI _ _ r)⟩
 exact AW.next (b:=()) (t:=s.toks) hs r1 s1 trivial q
theorem St.KI(hs:St X D h V m):(KK X.w.params).In h:=hs.bs.K.keeps λa o e=>(hs.rs.base a o e).1
structure TM(P:Fu)(x:AV)(a:AU):Prop where
 name:Jt (KK P) Ea x=some (some (.ref a))
 keep:Lw (KK P) (.ref a)=true
theorem Zu(hs:St X D s.heap V m)(hx:X.G.contains x=true)(e:Jt (KK X.w.params) Ea x=some (some v))(q:Q v s)(hd:(x==("__debug__":AV))=false):
 Aq (A7 BJ X.w) X.A (Ab (.Name x pos) X.env) Q E s:=by
 refine SN ?_ hd;have k:=hs.gl x hx;unfold mI;simp only[TG,hs.fr.kind,k,ui,Nz,Mc,if_false];unfold loadGlobal;refine AD hs.fr.glob ?_;obtain⟨mg,ns⟩:=hs.bs.g;have I_:s.heap.Ns Ea mg:=ns.keeps λb o e=>(hs.rs.base b o e).1;refine Ae (qQ I_ ?_);refine AD (mg_of hs.KI I_ e)<|BN q
theorem mJ(hs:St X D s.heap V m)(hx:X.G.contains x=true)(e:Jt (KK X.w.params) Ea x=some none)(hv:gY x=some v)(hn:x≠"__name__")(q:Q v s)(hd:(x==("__debug__":AV))=false):
 Aq (A7 BJ X.w) X.A (Ab (.Name x pos) X.env) Q E s:=by
 refine SN ?_ hd;obtain k:=hs.gl x hx;unfold mI;simp only[TG,hs.fr.kind,k,ui,Nz,Mc,if_false];unfold loadGlobal;refine AD hs.fr.glob<|AD hs.fr.G7 ?_
 obtain⟨mg,ns⟩:=hs.bs.g;(refine AI hs.bs.b λmb Ct=>?_;obtain nb:=Ct.1;obtain hb:=Ct.2;clear Ct);obtain I_:=ns.keeps λb o e=>(hs.rs.base b o e).1;obtain nb':=nb.keeps λb o e=>(hs.rs.base b o e).1;refine Ae (qQ I_ ?_);refine AD (mg_none_of hs.KI I_ e)<|Ae (qQ nb' ?_)
 refine AD (hb x hn)<|AD hv ?_
 exact BN q
theorem Ab5(hx:X.G.contains x=true)(e:Jt (KK X.w.params) Ea x=some (some (.int i t)))(q:Q (.int i) V m)(hd:(x==("__debug__":AV))=false):
 TR X VR (Ab (.Name x pos) X.env) V m Q:=λs D hs=>Zu hs hx e (AW.Cm hs DB q) hd
theorem vj{PY s:Bq}{KG:Hp}{AI4:Lc}(hs:St X D s.heap V m)(hk:Lw (KK X.w.params) f=true)
 (hf:AY X.w D s.heap mf first)
 (h:TR X AY (F7 (Dl pos (Cr args X.env))) V m λvs V m=>∀s D ws,St X D s.heap V m->AY X.w D s.heap (mf++vs) ws->Aq (A7 BJ X.w) X.A (call f ws) (AW X VR D s V Q) Dr s)
 (he:∀e r,args=e::r->Cr (e::r) X.env=(false,Ab e X.env)::Cr r X.env/\(Dl pos (Cr r X.env)).any (·.1)=false):
 Aq (A7 BJ X.w) X.A (Qc pos f first (Dl pos (Cr args X.env)) []) (AW X VR D s V Q) Dr s:=by
 cases args with
 |nil=>
  apply callWith_K0 hs.KI hk;obtain this:=h s D hs;obtain z:=TR.go h hs (Q':=λZ AJ=>∃Ad m₁ Ac,St X Ac AJ.heap Ad m₁) (E:=Dr) λa AJ b Ad m₁ Ac h1 Z Z Z Z=>(BK Ad m₁ Ac h1);have h':TR X AY (F7 []) V m λvs V m=>∀s D ws,St X D s.heap V m->AY X.w D s.heap (mf++vs) ws->Aq (A7 BJ X.w) X.A (call f ws) (AW X VR D s V Q) Dr s:=h;intro Γ p RD;obtain q:=h' s D hs Γ p RD;(refine Bc q λb AE m' D' Dg=>?_;refine Cu Dg λg1 g2 g3 g4 g5=>?_;clear Dg;try clear q);cases b with
  |nil=>
   obtain r:=g5 s D' (first++[]) g1 (by simpa using g2.F8 hs.rs hs.DT hf);exact Bz r (λv s' p=>AW.trans hs g2 g3 p) (λZ Z z=>z) Γ p RD
  |cons _ _=>simp only[BD]at g4
 |cons e r=>
  obtain⟨e1,e2⟩:=he e r rfl;refine callWith_K hs.KI hk (TR.go h hs λvs AJ CY Ad m₁ Ac h1 h2 h3 h4 h5=>⟨h1.KI,?_⟩) e1 e2;exact Bz (h5 AJ Ac (first++vs) h1 (AY.append (h2.F8 hs.rs hs.DT hf) h4)) (λv s' p=>AW.trans hs h2 h3 p) λZ Z z=>z
def LO(X:Cx)(args:List Expr)(pos:G4):Prop:=∀e r,args=e::r->Cr (e::r) X.env=(false,Ab e X.env)::Cr r X.env/\(Dl pos (Cr r X.env)).any (·.1)=false
theorem Aa9(g:TM X.w.params x a)(hx:X.G.contains x=true)(hn:n<=X.n)
 (h:TR X AY (F7 (Dl pos (Cr args X.env))) V m λvs V m=>Ag X.w X.h₀ n a vs V λv V=>Q v V m)
 (he:LO X args pos) (hd:(x==("__debug__":AV))=false):TR X VR (Ab (.Call (.Name x np) args [] pos) X.env) V m Q:=λs D hs=>by
 refine qL (Zu hs hx g.name ?_ hd)
 refine vj (PY:=s) (KG:=V) (AI4:=m) (mf:=[]) hs g.keep (by simp only[BD]) (TR.mono h λvs V m q s D ws h1 h2=>?_) he
 exact Bz (Ag.call q (A:=X.A) (s:=s) (D:=D) (AO h1.ok.1 (by obtain this:=h1.ok.2.1;exact AQ 0x114338f4f21046003038f4f2204600309201009 rfl hn this) (by obtain this:=h1.ok.2.2;exact qq hn this)) h1.bs h1.rs h2) (λv s' p=>AW.aB h1 p) λZ Z z=>z
end
theorem AH1
 (ho:s.heap.get? I=some o) (hc:o.cls=.type T) (hd:o.data=.fields vs) (hT:(["enumerate","zip","dict_itemiterator","dict_reverseitemiterator","odict_iterator","itertools.zip_longest","itertools.pairwise"]:List String).contains T=false) (hQ:Q () s):
 Aq M A (Zk (.Tuple es k p) (.ref I) v) Q E s:=by
 cases v with
 |ref a=>
  refine Ae (wpAny_load ho ?_);rw[hc,hd];simp only[hT,Nz,Mc,if_false];exact BN hQ
 |_=>exact BN hQ
theorem AH0
 (ho:s.heap.get? I=some o) (hc:o.cls=.type T) (hd:o.data=.fields vs) (hT:(["enumerate","zip","dict_itemiterator","dict_reverseitemiterator","odict_iterator","itertools.zip_longest","itertools.pairwise"]:List String).contains T=false) (hQ:Q () s):
 Aq M A (Zk A4 (.ref I) v) Q E s:=by
 have h:=AH1 (es:=[]) (k:=0) (p:=default) (M:=M) (A:=A) (E:=E) (v:=v) ho hc hd hT hQ;have g:Aq M A (pure ()) Q E s:=BN hQ;cases A4 with
 |Tuple=>exact h
 |List=>exact h
 |_=>exact g
structure It(w:CE)(h₀:BU)(I:AU)(items:List MV)(P:Hp->Prop)(S:Nat->(AU->Prop)->BU->Prop):Prop where
 Va:∀i D h D' h',S i D h->D I->(∀a o,¬D a->h.get? a=some o->h'.get? a=some o)->(∀a o,h.get? a=some o->¬D a->¬D' a)->(∀o,h.get? I=some o->h'.get? I=some o)->S i D' h'
 shape:∀i D h,S i D h->∃o T vs,h.get? I=some o/\o.cls=.type T/\o.data=.fields vs/\(["enumerate","zip","dict_itemiterator","dict_reverseitemiterator","odict_iterator","itertools.zip_longest","itertools.pairwise"]:List String).contains T=false
 item:∀i D s V A,RS w h₀ D s.heap V->P V->S i D s.heap->D I->∀mv,items[i]? =some mv->∀Q E,
  (∀v h' tk,VR w D s.heap mv v->S (i+1) D h'->JT I s.heap h'->Q (some v) {s with heap:=h',toks:=tk})->Aq (A7 BJ w) A (PJ (.ref I)) Q E s
 done:∀D s V A,A.handled=none->RS w h₀ D s.heap V->P V->S items.length D s.heap->∀Q E,
  (∀h' tk,(∀a o,a≠I->s.heap.get? a=some o->h'.get? a=some o)->Q none {s with heap:=h',toks:=tk})->Aq (A7 BJ w) A (PJ (.ref I)) Q E s
 self:∀i D s A,S i D s.heap->∀Q E,Q (.ref I) s->Aq (A7 BJ w) A (R0 (.ref I)) Q E s
noncomputable def BP(lo hi:Int):List Int:=(EV (hi-lo).toNat).map λ(k:Nat)=>lo+(k:Int)
inductive FF:MV->Hp->List MV->(Hp->Prop)->Prop
 |lst (l:List MV) (V:Hp):FF (.lst l) V l (λZ=>True)
 |ref (a:AU) (l:List MV) (V:Hp) (h:V a=some (.list l)):FF (.ref a) V l (λV=>V a=some (.list l))
 |tup (l:List MV) (V:Hp):FF (.tup l) V l (λZ=>True)
 |D2 (lo hi:Int) (V:Hp) (h1:-1000000<=lo) (h2:lo<=1000000) (h3:-1000000<=hi) (h4:hi<=1000000):FF (.D2 lo hi) V ((BP lo hi).map .int) (λZ=>True)
 |bytes (l:List Int) (V:Hp):FF (.bytes l) V (l.map .int) (λZ=>True)
 |di (l:List (Int×Int)) (V:Hp):FF (.di l) V (l.map λx=>.int x.1) (λZ=>True)
theorem Oa(x:W_ I h h'):∀a o,a≠I->h.get? a=some o->h'.get? a=some o:=λa o n e=>x a o n e
section
variable{X:Cx}
theorem AS0{lo hi:Int}{i:Nat}(h:((BP lo hi).map MV.int)[i]? =some mv):mv=.int (lo+i)/\(i:Int)<hi-lo:=by
 simp only[BP,Fd,EU]at h;cases e:(EV (hi-lo).toNat)[i]? with
 |none=>rw[e]at h;exact nS h
 |some k=>
  rw[e]at h;obtain this:=tW.mp e;refine Cp λGz BI=>?_;obtain⟨q,e'⟩:=this;simp at e' q;subst e';simp at h;apply BI;exact⟨h.symm,by exact q⟩
theorem KV.ind{α K γ:Type}{f g}{P:List (α×Int)->List (K×γ)->Prop}(h0:P [] [])(h1:∀k i t v r r',g v=.int i t->KV f g r r'->P r r'->P ((k,i)::r) ((f k,v)::r'))(l:List (α×Int)):∀xs,KV f g l xs->P l xs:=by
 induction l with
 |nil=>
  intro xs h;cases xs with
  |nil=>exact h0
  |cons _ _=>exact C5 h
 |cons p r ih=>
  intro xs h;cases xs with
  |nil=>exact C5 h
  |cons x r'=>
   have h:x.1=f p.1/\(∃t,g x.2=.int p.2 t)/\KV f g r r':=h;exact h.2.1.elim λt e=>(show x=(f p.1,x.2)from XZ h.1 rfl)▸h1 p.1 p.2 t x.2 r r' e h.2.2 (ih r' h.2.2)
theorem KV.keys{α K γ:Type}{f:α->K}{g:γ->Ap}{l:List (α×Int)}{xs:List (K×γ)}(h:KV f g l xs):xs.map (λx=>x.1)=l.map λp=>f p.1:=KV.ind (f:=f) (g:=g) (P:=λl xs=>xs.map (λx=>x.1)=l.map λp=>f p.1) rfl (λk Z Z Z Z Z Z Z ih=>congrArg (XI (f k)) ih) l xs h
theorem Fb.keys{kvs:List (Int×Ap)}(h:Fb l kvs):kvs.map (·.1)=l.map (·.1):=KV.keys h
theorem lR(h:(ik w).is k v=true):∃t,v=.int k t:=by
 replace h:QP k v=true:=h;cases v<;>simp[QP]at h
 subst h;exact⟨_,rfl⟩
theorem It.AG8:It w h₀ I0 l (λZ=>True) (λi D h=>h.IsListIter I0 a i/\∃xs n,¬D a/\h.get? a=some (GN xs n)/\AY w D h l xs.toList):=by
 refine⟨?_,?_,?_,?_,?_⟩
 ·intro i D h D' h' Am dI hk hd hI
  refine Cp λGz BI=>?_
  obtain⟨⟨o,x1,x2⟩,xs,n,na,g,r⟩:=Am;apply BI;exact⟨⟨o,hI o x1,x2⟩,xs,n,hd _ _ g na,hk _ _ na g,AY.mono hk hd _ _ r⟩
 ·intro i D h Am
  refine Cp λGz BI=>?_;obtain⟨⟨o,x1,x2,x3⟩,_⟩:=Am;apply BI;exact⟨o,_,_,x1,x2,x3,by decide⟩
 ·intro i D s' AE A Cy _ Am dI F5 e Q E hQ;refine Cp λGz BI=>?_;obtain⟨x,xs,n,na,g,r⟩:=Am;apply BI;refine Cp λGz BI=>?_;obtain⟨y,e',ry⟩:=r.get e;apply BI;refine bc x ⟨_,g,rfl,n,rfl⟩ (by refine AG (A0 (Ge)) ?_;exact e') λh' x' sb=>?_;obtain ne:a≠I0:=by rintro rfl;exact na dI
  obtain sk:∀c o,¬D c->s'.heap.get? c=some o->h'.get? c=some o:=λc o nd q=>(sb.2 c (λz=>nd (z▸dI))).trans q;exact hQ y h' s'.toks ry ⟨x',xs,n,na,(sb.2 a ne).trans g,AY.mono sk (λZ Z Z n=>n) _ _ r⟩ sb
 ·intro D s' AE A hh Cy _ Am Q E hQ;refine Cp λGz BI=>?_;obtain⟨x,xs,n,na,g,r⟩:=Am;apply BI;refine ba hh x ⟨_,g,rfl,n,rfl⟩ (by(refine AG (A0 (Ge)) ?_;rw[Ta];refine AD (A0 r.length) ?_);exact BX _) λh' x'=>hQ h' s'.toks (Oa x')
 ·intro i D s' A Am Q E hQ;refine Cp λGz BI=>?_;obtain⟨x,_⟩:=Am;apply BI;exact Ak4 x hQ
theorem It.AR2:It w h₀ I0 l (λV=>V a=some (.list l)) (λi D h=>h.IsListIter I0 a i):=by
 refine⟨?_,?_,?_,?_,?_⟩
 ·intro i D h D' h' Am dI hk hd hI
  refine Cp λGz BI=>?_
  obtain⟨o,x1,x2⟩:=Am;apply BI;exact⟨o,hI o x1,x2⟩
 ·intro i D h Am
  refine Cp λGz BI=>?_;obtain⟨o,x1,x2,x3⟩:=Am;apply BI;exact⟨o,_,_,x1,x2,x3,by decide⟩
 ·rintro i D s' AE A Cy p x dI F5 e Q E hQ;refine Cp λGz BI=>?_;obtain⟨hD,xs,n,g,r⟩:=Cy.obj a _ p;obtain⟨y,e',ry⟩:=r.get e;apply BI;exact bc x ⟨_,g,rfl,n,rfl⟩ (by refine AG (A0 (Ge)) ?_;exact e') λh' x' sb=>hQ y h' s'.toks ry x' sb
 ·rintro D s' AE A hh Cy p x Q E hQ;refine Cp λGz BI=>?_;obtain⟨hD,xs,n,g,r⟩:=Cy.obj a _ p;apply BI;exact ba hh x ⟨_,g,rfl,n,rfl⟩ (by(refine AG (A0 (Ge)) ?_;rw[Ta];refine AD (A0 r.length) ?_);exact BX _) λh' x'=>hQ h' s'.toks (Oa x')
 ·rintro i D s' A x Q E hQ;exact Ak4 x hQ
theorem It.Ag0:It w h₀ I0 l (λZ=>True) (λi D h=>h.IsTupleIter I0 a i/\∃xs n,¬D a/\h.get? a=some (Nd xs n)/\AY w D h l xs.toList):=by
 refine⟨?_,?_,?_,?_,?_⟩
 ·intro i D h D' h' Am dI hk hd hI
  refine Cp λGz BI=>?_
  obtain⟨⟨o,x1,x2⟩,xs,n,na,g,r⟩:=Am;apply BI;exact⟨⟨o,hI o x1,x2⟩,xs,n,hd _ _ g na,hk _ _ na g,AY.mono hk hd _ _ r⟩
 ·intro i D h Am
  refine Cp λGz BI=>?_;obtain⟨⟨o,x1,x2,x3⟩,_⟩:=Am;apply BI;exact⟨o,_,_,x1,x2,x3,by decide⟩
 ·intro i D s' AE A Cy _ Am dI F5 e Q E hQ;refine Cp λGz BI=>?_;obtain⟨x,xs,n,na,g,r⟩:=Am;apply BI;refine Cp λGz BI=>?_;obtain⟨y,e',ry⟩:=r.get e;apply BI;refine wpAny_pyNext_tuple_item x ⟨_,g,rfl,n,rfl⟩ (by rw[<-Ge];exact e') λh' x' sb=>?_;have ne:a≠I0:=by rintro rfl;exact na dI
  have sk:∀c o,¬D c->s'.heap.get? c=some o->h'.get? c=some o:=λc o nd q=>(sb.2 c (λz=>nd (z▸dI))).trans q;exact hQ y h' s'.toks ry ⟨x',xs,n,na,(sb.2 a ne).trans g,AY.mono sk (λZ Z Z n=>n) _ _ r⟩ sb
 ·intro D s' AE A hh Cy _ Am Q E hQ;refine Cp λGz BI=>?_;obtain⟨x,xs,n,na,g,r⟩:=Am;apply BI;refine wpAny_pyNext_tuple_end hh x ⟨_,g,rfl,n,rfl⟩ (by rw[<-Ge,Ta,<-r.length];exact BX _) λh' x'=>hQ h' s'.toks (Oa x')
 ·intro i D s' A Am Q E hQ;refine Cp λGz BI=>?_;obtain⟨x,_⟩:=Am;apply BI;exact wpAny_pyIter_tupleiter x hQ
theorem It.AR9{w h₀ I0 lo hi}:It w h₀ I0 ((BP lo hi).map MV.int) (λZ=>True) (λi D h=>XF h I0 (lo+i) ((if lo<hi then hi-lo else 0)-i) 1):=by
 refine⟨?_,?_,?_,?_,?_⟩
 ·rintro i D h D' h' x dI hk hd hI
  exact hI _ x
 ·rintro i D h x
  exact⟨_,_,_,x,rfl,rfl,by decide⟩
 ·rintro i D s' AE A Cy _ x dI F5 e Q E hQ;refine Cp λGz BI=>?_;obtain⟨rfl,lt⟩:=AS0 e;apply BI;refine wpAny_pyNext_range_item x (by split<;>omega) λh' x' sb=>hQ _ h' _ DB ?_ sb;obtain e1:lo+((i+1:Nat):Int)=lo+i+1:=by exact Bp 0x11111200801331200380135 rfl
  obtain e2:(if lo<hi then hi-lo else 0)-((i+1:Nat):Int)=(if lo<hi then hi-lo else 0)-i-1:=by exact Bp 0x11111200801441200380145 rfl
  show XF _ _ _ _ _;refine AD e1<|AD e2 ?_;exact x'
 ·rintro D s' AE A hh Cy _ x Q E hQ;refine wpAny_pyNext_range_end hh x ?_ λh' x'=>hQ h' s'.toks (Oa x');have:(((BP lo hi).map MV.int).length:Int)=(hi-lo).toNat:=by simp[BP]
  refine AD this ?_;split<;>omega
 ·rintro i D s' A x Q E hQ;exact wpAny_pyIter_rangeiter x hQ
theorem It.vM:It w h₀ I0 ((Fs b).map MV.int) (λZ=>True) (λi D h=>KBw.IsBytesIter h I0 b t i):=by
 refine⟨?_,?_,?_,?_,?_⟩
 ·intro i D h D' h' Am dI hk hd hI
  refine Cp λGz BI=>?_
  obtain⟨o,x1,x2⟩:=Am;apply BI;exact⟨o,hI o x1,x2⟩
 ·intro i D h Am
  refine Cp λGz BI=>?_;obtain⟨o,x1,x2,x3⟩:=Am;apply BI;exact⟨o,_,_,x1,x2,x3,by decide⟩
 ·rintro i D s' AE A Cy p x dI F5 e Q E hQ;simp only[Fs,Fd,EU,OF]at e;refine Cp λGz BI=>?_;obtain⟨c,e,rfl⟩:=e;apply BI;exact KBw.next_item x (by refine AG (A0 (Ge)) ?_;exact e) λh' x' sb=>hQ _ h' _ DB x' sb
 ·rintro D s' AE A hh Cy p x Q E hQ;refine KBw.next_end hh x ?_ λh' x'=>hQ h' s'.toks (Oa x');(refine AG (A0 (Ge)) ?_;rw[Ta]);simp[Fs]
 ·rintro i D s' A x Q E hQ;exact KBw.pyIter_self x hQ
theorem It.start(io:FF mv V items P)(hs:St X D s.heap V m)(hv:VR X.w D s.heap mv v)
 (q:∀o S,It X.w X.h₀ s.heap.objs.size items P S->S 0 (λb=>D b\/b=s.heap.objs.size) (s.heap.push o)->o.isFreed=false->Q (.ref s.heap.objs.size) {s with heap:=s.heap.push o}):
 Aq (A7 BJ X.w) A (R0 v) Q E s:=by
 obtain fr:∀a o,s.heap.get? a=some o->a≠s.heap.objs.size:=λa o e z=>by rw[z]at e;exact CO e (FA _)
 obtain mono:∀o mv v,VR X.w D s.heap mv v->VR X.w (λb=>D b\/b=s.heap.objs.size) (s.heap.push o) mv v:=λo mv v=>VR.mono (λa o Z e=>DD _ e) (λa o e n q=>q.elim n (fr a o e)) mv v;obtain VI:∀o mv v,AY X.w D s.heap mv v->AY X.w (λb=>D b\/b=s.heap.objs.size) (s.heap.push o) mv v:=λo mv v=>AY.mono (λa o Z e=>DD _ e) (λa o e n q=>q.elim n (fr a o e)) mv v;cases io with
 |lst l=>
  simp only[AZ]at hv;refine Cp λGz BI=>?_;obtain⟨a,xs,n,rfl,na,g,r⟩:=hv;apply BI;refine bZ ⟨_,g,rfl,n,rfl⟩ (q _ _ It.AG8
   ⟨⟨_,Dx _ rfl,rfl,rfl⟩,xs,n,λz=>z.elim na (fr a _ g),DD _ g,VI _ _ _ r⟩ rfl)
 |ref a l _ hl=>
  simp only[AZ]at hv;subst hv;refine Cp λGz BI=>?_;obtain⟨hD,xs,n,g,r⟩:=hs.rs.obj a _ hl;apply BI;refine bZ ⟨_,g,rfl,n,rfl⟩ (q _ _ It.AR2 ⟨_,Dx _ rfl,rfl,rfl⟩ rfl)
 |tup l=>
  simp only[AZ]at hv;refine Cp λGz BI=>?_;obtain⟨a,xs,n,rfl,na,g,r⟩:=hv;apply BI;refine wpAny_pyIter_tuple ⟨_,g,rfl,n,rfl⟩ (q _ _ It.Ag0
   ⟨⟨_,Dx _ rfl,rfl,rfl⟩,xs,n,λz=>z.elim na (fr a _ g),DD _ g,VI _ _ _ r⟩ rfl)
 |D2 lo hi _ h1 h2 h3 h4=>
  simp only[AZ]at hv;refine Cp λGz BI=>?_;obtain⟨a,t,u,y,rfl,na,g⟩:=hv;have IG:r7 lo hi 1=if lo<hi then hi-lo else 0:=by
   unfold r7;apply AG (if_pos (by decide));split
   ·refine AD (Int.ediv_one ..) ?_;exact Bd 0x111111014121211014435 rfl
   ·rfl
  obtain fl:∀z,-3000000<=z->z<=3000000->rz z=true:=λz a b=>by
   unfold rz;simp only[KH,decide_eq_true_eq];constructor<;>omega
  apply BI;refine wpAny_pyIter_range g ?_ (q _ _ It.AR9 ?_ rfl)
  ·unfold An9;refine AD IG ?_;obtain this:-3000000<=(if lo<hi then hi-lo else 0)/\(if lo<hi then hi-lo else 0)<=3000000:=by split<;>omega
   refine AD (fl lo (Aw 0x112012dfcf6fcf0f251010ff4f2f4f0f2519 rfl h1) (Aw 0x1122dfcf6fcf0f20110ff4f2f4f0f20119 rfl h2))<|AD (fl hi (Aw 0x112012dfcf6fcf0f251010ff4f2f4f0f2519 rfl h3) (Aw 0x1122dfcf6fcf0f20110ff4f2f4f0f20119 rfl h4))<|AD (fl 1 (EJ 0x11122dfcf6fcf0f251 rfl) (EJ 0x112dfcf6fcf0f2121 rfl))<|AD (fl _ this.1 this.2)<|AD (fl (hi+(1-1)) (Aw 0x112121240132dfcf6fcf0f251010ff4f2f4f0f2519 rfl h3) (Aw 0x1122dfcf6fcf0f21212401310ff4f2f4f0f20119 rfl h4)) ?_
   simp
  ·show XF _ _ _ _ _;unfold XF;refine AG (Dx _ rfl)<|AD IG ?_
   simp
 |bytes l=>
  simp only[AZ]at hv;refine Cp λGz BI=>?_;obtain⟨b,t,rfl,rfl⟩:=hv;refine BI ?_;refine tE (q _ _ It.vM ⟨_,Dx _ rfl,rfl,rfl⟩ rfl)
 |di l=>
  simp only[AZ]at hv;refine Cp λGz BI=>?_;obtain⟨a,rfl,na,n1,kvs,⟨o,es,ep,g,ex,d1,k1,p1,nd⟩,iv⟩:=hv;obtain Kf:kvs.map (·.1)=l.map (·.1):=iv.keys;obtain hlen:kvs.length=l.length:=by obtain this:=congrArg Tb Kf;simpa using this
  apply BI
  refine wpAny_pyIter_dict (knd:=ik X.w) (by simpa using n1) ⟨o,es,g,ex,d1,k1,p1,nd⟩ (q _ (λi D h=>h.IsKeyIter s.heap.objs.size a i kvs.length ep/\¬D a/\h.get? a=some o) ⟨?_,?_,?_,?_,?_⟩
   ⟨⟨_,Dx _ rfl,rfl,rfl⟩,λz=>z.elim na (fr a _ g),DD _ g⟩ rfl)
  ·intro i D h D' h' Am dI hk hd hI;refine Cp λGz BI=>?_;obtain⟨⟨o',x1,x2⟩,na,g⟩:=Am;apply BI;exact⟨⟨o',hI o' x1,x2⟩,hd _ _ g na,hk _ _ na g⟩
  ·intro i D h Am
   refine Cp λGz BI=>?_;obtain⟨⟨o',x1,x2,x3⟩,_⟩:=Am;apply BI;exact⟨o',_,_,x1,x2,x3,by decide⟩
  ·intro i D s' AE A Cy p Am dI F5 e Q E hQ;refine Cp λGz BI=>?_;obtain⟨x,na,g⟩:=Am;apply BI;simp only[EU,OF]at e;refine Cp λGz BI=>?_;obtain⟨c,e,rfl⟩:=e;obtain e2:(kvs.map (·.1))[i]? =some c.1:=by refine AD Kf<|AG (EU)<|AD e ?_;rfl
   rw[EU,OF]at e2;obtain⟨⟨k,vv⟩,e3,e4⟩:=e2;simp only at e4;subst e4;apply BI;refine wpAny_pyNext_dict_item (knd:=ik X.w) x ⟨o,es,g,ex,d1,k1,p1,nd⟩ e3 λkey h' hk x' sb=>Cp λGz BI=>?_;obtain⟨t,rfl⟩:=lR hk;obtain ne:a≠s.heap.objs.size:=by rintro rfl;exact na dI
   apply BI;exact hQ _ h' s'.toks DB ⟨x',na,(sb.2 a ne).trans g⟩ sb
  ·intro D s' AE A hh Cy p Am Q E hQ;refine Cp λGz BI=>?_;obtain⟨x,na,g⟩:=Am;apply BI;refine wpAny_pyNext_dict_end (knd:=ik X.w) hh x ⟨o,es,g,ex,d1,k1,p1,nd⟩ (by(rw[Ta];refine AD hlen ?_);simp) λh' x'=>hQ h' s'.toks (Oa x')
  ·intro i D s' A Am Q E hQ;refine Cp λGz BI=>?_;obtain⟨x,_⟩:=Am;apply BI;exact wpAny_pyIter_keyiter x hQ
def TA(X:Cx)(A4:Expr)(mv:MV)(V:Hp)(m:Lc)(Q:Hp->Lc->Prop):Prop:=
 ∀s D v,St X D s.heap V m->VR X.w D s.heap mv v->Aq (A7 BJ X.w) X.A (G6 A4 X.env v) (AW X RU D s V λZ V m=>Q V m) Dr s
variable{V:Hp}{m:Lc}
theorem PZ(hx:BG m x=true)(q:Q V (DS m x mv)):TA X (.Name x pos) mv V m Q:=λs D v hs hv=>bX (SA hs hv hx q)
structure Ey(X:Cx)(D:AU->Prop)(h:BU)(V:Hp)(acc:AU):Prop where
 inD:D acc
 nf:¬foot V acc
 no:¬Own X.env acc
theorem Ey.step(x:Ey X D h V acc)(lt:∀a,D a->∃o,h.get? a=some o)(s:Step own D h V D' h' AE):Ey X D' h' AE acc:=
 ⟨s.GJ _ x.inD x.nf,λf=>by
  obtain⟨o,e⟩:=lt _ x.inD
  rcases s.F0 _ f with q|q
  ·exact x.nf q
  ·exact CO e q,x.no⟩
theorem St.X4(g1:St X D h V m)(a:Ey X D h V I0)(kp:∀c o,c≠I0->h.get? c=some o->h'.get? c=some o):
 St X (λa=>D a/\a≠I0) h' V m/\∀mv v,VR X.w D h mv v->VR X.w (λa=>D a/\a≠I0) h' mv v:=by
 have r3:=g1.rs.Qj (I:=I0) a.inD a.nf kp
 have f:=g1.fr
 have ZV:∀b o,Own X.env b->h.get? b=some o->h'.get? b=some o:=λb o q e=>kp b o (λz=>a.no (z▸q)) e
 have vm:∀mv v,VR X.w D h mv v->VR X.w (λa=>D a/\a≠I0) h' mv v:=λmv v y=>VR.mono (λb o n e=>kp b o (λz=>n (z▸a.inD)) e) (λZ Z Z n d=>n d.1) mv v y
 refine⟨⟨r3,?_,g1.bs,g1.ok,g1.gl,g1.kd⟩,vm⟩
 (refine AI f.ns λmr Ai=>?_;obtain zN6:=Ai.1;obtain hm:=Ai.2;(refine A1 zN6 λo es ep AR=>?_;obtain e1:=AR.1;obtain e2:=AR.2))
 refine⟨f.kind,f.glob,f.G7,λb o=>⟨⟨(f.own b o).1,λz=>a.no (z▸o)⟩,(f.own b o).2⟩,⟨mr,⟨(BK o es ep ⟨(ZV _ _ (.inl rfl) e1),e2⟩),(λx mv e k=>?_)⟩⟩,λx mv e=>?_,f.kn,λx c hc=>?_,f.apart⟩
 ·(refine AI (hm x mv e k) λv A6=>?_;obtain a:=A6.1;obtain b:=A6.2);exact⟨v,⟨a,(vm _ _ b)⟩⟩
 ·rcases f.cell x mv e with q|⟨c,v,a,⟨o,b1,b2⟩,r⟩
  ·exact .inl q
  ·exact .inr (Aj c v (AO a ⟨o,⟨(ZV _ _ (.inr ⟨x,a⟩) b1),b2⟩⟩ (vm _ _ r)))
 ·(refine Ao (f.cells x c hc) λv o A2=>?_;obtain a:=A2.1;obtain b:=A2.2);exact(Aj v o ⟨(ZV _ _ (.inr ⟨x,hc⟩) a),b⟩)
theorem It.turn(it:It X.w X.h₀ I0 items P S)(hs:St X D s.heap V m)(hP:P V)(S0:S i D s.heap)(ac:Ey X D s.heap V I0)(e:items[i]? =some mv)
 (q:∀v h' tk,St X D h' V m->VR X.w D h' mv v->S (i+1) D h'->Ey X D h' V I0->Step (λa=>a=I0) D s.heap V D h' V->(∀c o,c≠I0->s.heap.get? c=some o->h'.get? c=some o)->
  (∀A4 Q E,Q () {s with heap:=h',toks:=tk}->Aq (A7 BJ X.w) X.A (Zk A4 (.ref I0) v) Q E {s with heap:=h',toks:=tk})->Q (some v) {s with heap:=h',toks:=tk}):
 Aq (A7 BJ X.w) X.A (PJ (.ref I0)) Q E s:=
 it.item i D s V X.A hs.rs hP S0 ac.inD _ e _ _ λv h' tk hv S1 sb=>by
  obtain kp:=λc o n e=>(sb.2 c n).trans e
  refine A1 (it.shape _ _ _ S1) λoS TS vS z=>G5 z λq1 q2 q3 q4=>?_
  obtain⟨r3,au⟩:=hs.rs.pZ ac.inD ac.nf kp ⟨oS,q1⟩;exact q v h' tk ⟨r3,hs.fr.a9 hs.rs.live (λZ q=>Ob hs.rs q) au (λa o z=>ac.no (z▸o)) (λa z=>z▸ac.inD),hs.bs,hs.ok,hs.gl,hs.kd⟩
   (au.vr hs.rs (λa (z:a=I0)=>z▸ac.inD) hv) S1 ⟨ac.inD,ac.nf,ac.no⟩ au kp λA4 Q E h=>AH0 (s:={s with heap:=h',toks:=tk}) q1 q2 q3 q4 h
theorem Step.behind(g2:Step own Ac C8 Ad D h V)(nI:C8.get? I0=none)(st:Step N D h V D h' V)(kp:∀c o,c≠I0->h.get? c=some o->h'.get? c=some o):Step own Ac C8 Ad D h' V:=
 ⟨g2.GJ,g2.H9,g2.F0,λa o e f n=>kp a o (λz=>CO (z▸e) nI) (g2.keep a o e f n),λa o e=>(g2.live a o e).elim λo' e'=>st.live a o' e'⟩
def TL(X:Cx)(I0:AU)(items:List MV)(S:Nat->(AU->Prop)->BU->Prop)(I:List MV->Hp->Lc->Prop)(Ac:AU->Prop)(AJ:Bq)(Ad:Hp)(n:Nat)(s':Bq):Prop:=
 ∃i AE m' D',n+i=items.length/\St X D' s'.heap AE m'/\Step (Own X.env) Ac AJ.heap Ad D' s'.heap AE/\CV AJ s'/\S i D' s'.heap/\Ey X D' s'.heap AE I0/\I (items.drop i) AE m'
def eo(I:Hp->Lc->Prop)(Q:Res->Hp->Lc->Prop)(r:Res)(V:Hp)(m:Lc):Prop:=match r with
 | .next=>I V m
 | .cont=>I V m
 | .brk=>Q .next V m
 | .ret v=>Q (.ret v) V m
theorem yP{K E}
 (it:It X.w X.h₀ I0 items P S) (hi:i<items.length) (hn:n+i=items.length) (lv:∀a,Ac a->∃o,AJ.heap.get? a=some o) (hs:St X Bk A8.heap V m) (st:Step (Own X.env) Ac AJ.heap Ad Bk A8.heap V) (sr:CV AJ A8) (S1:S (i+1) Bk A8.heap) (ac:Ey X Bk A8.heap V I0) (hv:VR X.w Bk A8.heap mv v)
 (turn:TA X A4 mv V m λV m=>TR X RF (Fy body X.env) V m (eo (I (items.drop (i+1))) Q))
 (kn:∀s,TL X I0 items S I Ac AJ Ad (n-1) s->K .next s/\K .cont s) (kb:∀s,AW X RF Ac AJ Ad Q .next s->K .brk s) (kr:∀v s,AW X RF Ac AJ Ad Q (.ret v) s->K (.ret v) s):
 Aq (A7 BJ X.w) X.A (G6 A4 X.env v) (λZ Dp=>Aq (A7 BJ X.w) X.A (Fy body X.env) K E Dp) E A8:=by
 refine Bz (turn A8 Bk v hs hv) (λZ Dp p=>?_) λZ Z x=>x.elim;refine Bc p λZ Gd Hk Fq z=>Cu z λk1 k2 k3 Z k5=>TR.go k5 k1 λf GX r Ig Js FW l1 l2 l3 l4 l5=>?_;obtain sb:=k2.trans hs.rs.live l2;obtain PT:=sr.trans (k3.trans l3);obtain sa:Step (Own X.env) Ac AJ.heap Ad FW GX.heap Ig:=st.trans lv sb;obtain go:I (items.drop (i+1)) Ig Js->TL X I0 items S I Ac AJ Ad (n-1) GX:=λhI=>
  Ar (i+1) Ig Js FW (Dz (qr hn hi) l1 sa PT (it.Va _ Bk A8.heap FW GX.heap S1 ac.inD (sb.hk hs.rs hs.DT) sb.hd (λo e=>sb.keep I0 o e ac.nf ac.no)) (ac.step hs.rs.live sb) hI)
 cases r<;>cases f<;>first|exact l4.elim|skip
 ·exact(kn _ (go l5)).1
 ·exact kb _ (Ar .next Ig Js FW (An l1 sa PT trivial l5))
 ·exact(kn _ (go l5)).2
 ·exact kr _ _ (Ar (.ret _) Ig Js FW (An l1 sa PT l4 l5))
theorem yO{R}
 (it:It X.w X.h₀ I0 items P S) (lv:∀a,Ac a->∃o,AJ.heap.get? a=some o) (nI:AJ.heap.get? I0=none) (hP:∀mv AN V m,I (mv::AN) V m->P V) (F2:∀V m,I [] V m->P V)
 (turn:∀mv AN V m,I (mv::AN) V m->TA X A4 mv V m λV m=>TR X RF (Fy body X.env) V m (eo (I AN) Q)) (fin:∀V m,I [] V m->TR X RF (Fy orelse X.env) V m Q)
 (kq:∀f s,AW X RF Ac AJ Ad Q f s->R (.ok f) s) (n:Nat) {s} (h:TL X I0 items S I Ac AJ Ad n s):GI (A7 BJ X.w) X.A (.forLoop A4 (.ref I0) body orelse X.env) R s:=by
 refine codeAny_forLoop_any (TL X I0 items S I Ac AJ Ad) (λn A8 p=>?_) n h;refine Bc p λi Dq m₂ Bk z=>En z λhn g1 g2 g3 g4 g5 g7=>?_
 refine(Mr i items.length).elim (λhi=>?_) λhi=>?_
 ·obtain g7:=fG hi▸g7
  obtain hl:n-1<n:=by exact AQ 0x10110510000500120042201029201000349 rfl hn hi
  exact it.turn g1 (hP _ _ _ _ g7) g4 g5 (Ee hi) λv h' tk hs hv S1 ac st kp lt=>lt _ _ _ (yP it hi hn lv hs (g2.behind nI st kp) (g3.trans ⟨rfl,rfl,rfl⟩) S1 ac hv (turn _ _ _ _ g7)
   (λs f=>⟨⟨_,hl,f⟩,⟨_,hl,f⟩⟩) (kq _) λv=>kq _)
 ·obtain IB:i=items.length:=by exact AQ 0x1100410010017100041000269100020349 rfl hn (Ft.mpr hi)
  obtain g7:=tP hi▸g7;exact it.done Bk A8 Dq X.A g1.ok.1 g1.rs (F2 _ _ g7) (IB▸g4) _ _ λh' tk kp=>TR.go (s:={A8 with heap:=h',toks:=tk}) (fin _ _ g7) (g1.X4 g5 kp).1 λf GX r Ig Js FW l1 l2 l3 l4 l5=>
   kq _ _ (Ar r Ig Js FW (An l1 ((g2.Qj lv nI kp).trans lv l2) (g3.trans ((CV.mk (s:=A8) (s':={A8 with heap:=h',toks:=tk}) rfl rfl rfl).trans l3)) l4 l5))
theorem Ab4
 (h:TR X VR (Ab iter X.env) V m λv V m=>∃items P,FF v V items P/\∃I:List MV->Hp->Lc->Prop,(∀mv AN V m,I (mv::AN) V m->P V)/\(∀V m,I [] V m->P V)/\I items V m/\
  (∀mv AN V m,I (mv::AN) V m->TA X A4 mv V m λV m=>TR X RF (Fy body X.env) V m λr V m=>match r with
  | .next=>I AN V m
  | .cont=>I AN V m
  | .brk=>Q .next V m
  | .ret v=>Q (.ret v) V m)/\∀V m,I [] V m->TR X RF (Fy orelse X.env) V m Q) (hf:∀x,Jf iter X.env x=pure x):
 TR X RF (Cj (.For A4 iter body orelse pos) X.env) V m Q:=λs D hs=>by
 refine wpAny_For (TR.go h hs λv AJ mv Ad m₁ Ac h1 h2 h3 h4 h5=>?_) hf
 refine Ao h5 λitems P z=>BQ z λio z=>AI z λI z=>Cu z λhP F2 hI turn fin=>It.start io h1 h4 λob S it S0 Rl=>?_
 obtain⟨r2,Jz⟩:=h1.rs.QX (h':=AJ.heap.push ob) (N:=λb=>b=AJ.heap.objs.size) (λa o e=>DD _ e) (λb e=>e▸⟨FA _,⟨ob,Dx _ Rl⟩⟩)
 refine yO (Q:=Q) (Ad:=Ad) it h1.rs.live (FA _) hP F2 turn fin (λf s p=>?_) items.length ?_
 ·exact AW.trans hs h2 h3 p
 exact(Ar 0 Ad m₁ _ (Dz (uA _) (h1.next r2 Jz) Jz.Hn ⟨rfl,rfl,rfl⟩ S0 ⟨.inr rfl,λf=>(Iw h1.rs f).elim λx e=>CO e (FA _),λo=>(h1.rs.live _ (h1.fr.own _ o).1).elim λx e=>CO e (FA _)⟩ hI))
end
noncomputable def H7:List AV->List MV->AV->Option MV
 |k::ks,v::vs,x=>if k=x then some v else H7 ks vs x
 |[],_,_=>none
 |_::_,[],_=>none
noncomputable def DY:List AV->AV->List AV
 |[],x=>[x]
 |k::ks,x=>if k=x then k::ks else k::DY ks x
noncomputable def Ds:List AV->List MV->AV->MV->List MV
 |[],_,_,v=>[v]
 |k::ks,w::vs,x,v=>if k=x then v::vs else w::Ds ks vs x v
 |_::_,[],_,_=>[]
theorem U_:(uv k t).isStr x=(k==x):=rfl
theorem jf(q:e.key=.str x t):H' x (e::es)=some (some e.val):=by
 unfold H';rw[TY,q,U_,beq_self_eq_true]
theorem YU(q:e.key=.str k t)(n:k≠x):H' x (e::es)=H' x es:=by
 unfold H';rw[TY,q,U_,beq_false_of_ne n,XH,show e.refKey=false by unfold Ao1;rw[q],eP]
theorem AQ4(q:e.key=.str x t):Hm x Fg key v (e::es)={e with val:=v}::es:=by
 show(if e.key.isStr x=true then{e with val:=v}::es else e::Hm x Fg key v es)=_;exact if_pos (by rw[q,U_,beq_self_eq_true])
theorem AQ5(q:e.key=.str k t)(n:k≠x):Hm x Fg key v (e::es)=e::Hm x Fg key v es:=by
 show(if e.key.isStr x=true then{e with val:=v}::es else e::Hm x Fg key v es)=_;exact if_neg (by rw[q,U_,beq_false_of_ne n];exact Ed)
theorem uy(ak:AK es ks):AY w D h vs (es.map (·.val))->H7 ks vs x=some mv->∃v,H' x es=some (some v)/\VR w D h mv v:=
 AK.ind (P:=λes ks=>∀vs,AY w D h vs (es.map (·.val))->H7 ks vs x=some mv->∃v,H' x es=some (some v)/\VR w D h mv v) (λZ Z g=>nS g) (λe es k ks t q Z ih vs r=>by
  cases vs with
  |nil=>exact C5 r
  |cons v vs=>
   have r:VR w D h v e.val/\AY w D h vs (es.map (·.val)):=r;intro g;by_cases z:k=x
   ·subst z;exact⟨_,jf q,Au ((if_pos rfl:H7 (k::ks) (v::vs) k=some v).symm.trans g)▸r.1⟩
   ·rw[YU q z];exact ih vs r.2 ((if_neg z:H7 (k::ks) (v::vs) x=H7 ks vs x).symm.trans g)) es ks ak vs
theorem gJ(ak:AK es ks):x∉ks->H' x es=some none:=
 AK.ind (P:=λes ks=>x∉ks->H' x es=some none) (λZ=>rfl) (λe es k ks t q Z ih n=>(YU q λz=>n (z▸.head _)).trans (ih λz=>n (.tail _ z))) es ks ak
theorem u2(x)(ak:AK es ks):(H' x es).isSome=true:=
 AK.ind (P:=λes Z=>(H' x es).isSome=true) rfl (λe es k ks t q Z ih=>by
  by_cases z:k=x
  ·subst z;rw[jf q];rfl
  ·rw[YU q z];exact ih) es ks ak
theorem uz(hv:VR w D h mv v)(ak:AK es ks):AY w D h vs (es.map (·.val))->
 AK (Hm x Fg (.str x t) v es) (DY ks x)/\AY w D h (Ds ks vs x mv) ((Hm x Fg (.str x t) v es).map (·.val)):=
 AK.ind (P:=λes ks=>∀vs,AY w D h vs (es.map (·.val))->AK (Hm x Fg (.str x t) v es) (DY ks x)/\AY w D h (Ds ks vs x mv) ((Hm x Fg (.str x t) v es).map (·.val))) (λZ Z=>⟨⟨⟨t,rfl⟩,trivial⟩,hv,trivial⟩) (λe es k ks t' q hk ih vs r=>by
  cases vs with
  |nil=>exact C5 r
  |cons u vs=>
   have r:VR w D h u e.val/\AY w D h vs (es.map (·.val)):=r;by_cases z:k=x
   ·subst z;rw[AQ4 q,show DY (k::ks) k=k::ks from if_pos rfl,show Ds (k::ks) (u::vs) k mv=mv::vs from if_pos rfl];exact⟨⟨⟨t',q⟩,hk⟩,hv,r.2⟩
   ·rw[AQ5 q z,show DY (k::ks) x=k::DY ks x from if_neg z,show Ds (k::ks) (u::vs) x mv=u::Ds ks vs x mv from if_neg z];exact⟨⟨⟨t',q⟩,(ih vs r.2).1⟩,r.1,(ih vs r.2).2⟩) es ks ak vs
theorem AK.length(ak:AK es ks):es.length=ks.length:=AK.ind (P:=λes ks=>es.length=ks.length) rfl (λZ Z Z Z Z Z Z ih=>congrArg uO ih) es ks ak
set_option tactic.hygienic true in
theorem AT1{K E s x dx C es n name v Q}(X:K.In s.heap)
 (hx:s.heap.get? x=some (IJ C dx)) (D:s.heap.get? dx=some (Iv es n))
 (hs:KZ K (.ref C) "__setattr__"=some (some (.builtin "object.__setattr__"))) (hp:n_ K C=true) (ht:pO K C name=some none) (hh:Q2 K C=true) (hl:(H' name es).isSome=true) (hz:es.length<=900)
 (h:∀t k h' n',h'.get? dx=some (Iv (Hm name (QM w.params name) (.str name t) v es) n')->JT dx s.heap h'->Q () {s with heap:=h',toks:=k}):
 Aq (A7 prog w) A (setAttr (.ref x) name v) Q E s:=by
 obtain I:W.InstAt s.heap x (IJ C dx) C (some (Iv es n)):=⟨hx,rfl,rfl,D⟩;refine set_plain X I hs (osa_open (s:={s with toks:=s.toks+1}) X I hp ht λb=>?_);(refine AI (any_some hh) λcd Af=>?_;obtain hc:=Af.1;obtain Gj:=Af.2;clear Af);refine Ae (BN (Ae (Ae (Ak0 hx (Ae (Looks.here (s:={s with toks:=s.toks+1}) (looks_clsIn X hc) ?_))))));refine AD Gj<|BN (a:=some dx) (Ae (BN (Ae ?_)))
 unfold nsSet;refine Ae (Ae (qM (BN (Ae (qP (Ae (Ak0 D ?_)))))));dsimp only;have c:(!es.toArray.any (·.key.isStr name)&&es.toArray.any (·.refKey))=false:=by
  refine AD (A0 W0)<|AD (A0 W0) ?_
  unfold H' at hl;split at hl
  ·rename_i en he;obtain this:(es.toArray.toList.any (·.key.isStr name))=true:=tK.mpr ⟨en,⟨(List.mem_of_find?_eq_some he),(List.find?_some (p:=λx:Mg=>x.key.isStr name) he)⟩⟩;refine AD this ?_;rfl
  ·split at hl
   ·exact fT hl
   ·rename_i z;rw[eQ]at z;have:es.toArray.toList.any (·.refKey)=false:=z;rw[this,eN]
 refine AD (aRefKeyMayBeTheName_at ..)<|AD c ?_
 refine wpAny_updatePart D ?_;have Oi:(s.heap.update dx (Obj.putName name (QM w.params name) (.str name (s.toks+1)) v)).get? dx=some (Iv (Hm name (QM w.params name) (.str name (s.toks+1)) v es) (putN name es n)):=by
  rw[W' _ D (by rw[putName_dict];rfl),putName_dict]
 have hlen:(Hm name (QM w.params name) (.str name (s.toks+1)) v es).length<=es.length+1:=by
  clear c Oi hl h D I hz;induction es with
  |nil=>simp[Hm]
  |cons e r ih=>unfold Hm;split<;>simp;exact ih
 refine Ae (wpAny_lookBehind Oi (pastItsLine_dict (by refine AD List.size_toArray<|AD JC ?_;exact AM 0x11131210f0f0f0f0f0f2300012103000938f4f21009 rfl hz hlen)) ?_);exact BN (h _ _ _ _ Oi (TQ ..))
structure GA(P:Fu)(c:AU)(name:AV):Prop where
 get:Vd (KK P) c name=true
 dict:Q2 (KK P) c=true
 attr:∃a,KZ (KK P) (.ref c) name=some a/\noGet (KK P) a=true
structure GS(P:Fu)(c:AU)(name:AV):Prop where
 set:KZ (KK P) (.ref c) "__setattr__"=some (some (.builtin "object.__setattr__"))
 over:n_ (KK P) c=true
 AY7:pO (KK P) c name=some none
 dict:Q2 (KK P) c=true
structure GM(P:Fu)(c:AU)(name:AV)(f:AU):Prop where
 get:Vd (KK P) c name=true
 find:KZ (KK P) (.ref c) name=some (some (.ref f))
 fn:isFn (KK P) (.ref f)=true
 keep:Lw (KK P) (.ref f)=true
structure GC(P:Fu)(c:AU)(fI:AU):Prop where
 makes:makesIn (KK P) c=true
 init:KZ (KK P) (.ref c) "__init__"=some (some (.ref fI))
 fn:typeIn (KK P) (.ref fI)=some (.type "function")
 keep:Lw (KK P) (.ref c)=true
def Ga(c:AU)(n:AV):Prop:=∀P,GA P c n
def Gs(c:AU)(n:AV):Prop:=∀P,GS P c n
def Gm(c:AU)(n:AV)(f:AU):Prop:=∀P,GM P c n f
def Gc(c f:AU):Prop:=∀P,GC P c f
section
variable{c f:AU}{n:AV}
theorem ga(h:(λP=>(Vd (KK P) c n,Q2 (KK P) c,(KZ (KK P) (.ref c) n).map (noGet (KK P))))=λZ=>(true,true,some true)):Ga c n:=λP=>
 ⟨congrArg (·.1) (congrFun h P),congrArg (·.2.1) (congrFun h P),OF.mp (congrArg (·.2.2) (congrFun h P))⟩
theorem gs(h:(λP=>(KZ (KK P) (.ref c) "__setattr__",n_ (KK P) c,pO (KK P) c n,Q2 (KK P) c))=λZ=>(some (some (.builtin "object.__setattr__")),true,some none,true)):Gs c n:=λP=>
 ⟨congrArg (·.1) (congrFun h P),congrArg (·.2.1) (congrFun h P),congrArg (·.2.2.1) (congrFun h P),congrArg (·.2.2.2) (congrFun h P)⟩
theorem gm(h:(λP=>(Vd (KK P) c n,KZ (KK P) (.ref c) n,isFn (KK P) (.ref f),Lw (KK P) (.ref f)))=λZ=>(true,some (some (.ref f)),true,true)):Gm c n f:=λP=>
 ⟨congrArg (·.1) (congrFun h P),congrArg (·.2.1) (congrFun h P),congrArg (·.2.2.1) (congrFun h P),congrArg (·.2.2.2) (congrFun h P)⟩
theorem gc(h:(λP=>(makesIn (KK P) c,KZ (KK P) (.ref c) "__init__",typeIn (KK P) (.ref f),Lw (KK P) (.ref c)))=λZ=>(true,some (some (.ref f)),some (.type "function"),true)):Gc c f:=λP=>
 ⟨congrArg (·.1) (congrFun h P),congrArg (·.2.1) (congrFun h P),congrArg (·.2.2.1) (congrFun h P),congrArg (·.2.2.2) (congrFun h P)⟩
end
def EI(V:Hp)(a:MV)(c:AU)(ks:List AV)(vs:List MV):Prop:=a=.ins c ks vs\/∃x d,a=.ref x/\V x=some (.inst c d ks vs)
section
variable{X:Cx}{V:Hp}{m:Lc}
theorem EI.at(x:EI V a c ks vs)(r:RS w h₀ D h V)(hv:VR w D h a v):
 ∃p d es n,v=.ref p/\h.get? p=some (IJ c d)/\h.get? d=some (Iv es n)/\AK es ks/\AY w D h vs (es.map (·.val)):=by
 rcases x with rfl|⟨p,d,rfl,e⟩
 ·simp only[AZ]at hv;(refine Bc hv λp d es n AX=>?_;obtain e:=AX.1;obtain g:=AX.2.2.2.1;obtain gd:=AX.2.2.2.2.1;obtain ak:=AX.2.2.2.2.2.1;obtain r:=AX.2.2.2.2.2.2;clear AX;try clear hv);exact(Ar p d es n (An e g gd ak r))
 ·simp only[AZ]at hv;(obtain qY:=(r.obj p _ e);obtain g:=qY.2.1;obtain A9:=qY.2.2;refine Ao A9 λes n Ai=>?_;obtain gd:=Ai.1;obtain ak:=Ai.2.1;obtain r:=Ai.2.2;clear Ai A9);exact(Ar p d es n (An hv g gd ak r))
theorem Ag6(r:VR w D h mv v):handedIn v=true:=by
 cases mv<;>simp only[AZ]at r
 all_goals first
  |(subst r;rfl)
  |(obtain⟨_,rfl⟩:=r;rfl)
  |(obtain⟨_,_,rfl,_⟩:=r;rfl)
  |(obtain⟨_,rfl,_⟩:=r;rfl)
  |(obtain⟨_,_,_,rfl,_⟩:=r;rfl)
  |(obtain⟨_,_,_,_,rfl,_⟩:=r;rfl)
def KR(X:Cx)(t:Ap->EG Ap)(a:MV)(V:Hp)(m:Lc)(Q:MV->Hp->Lc->Prop):Prop:=
 ∀s D u,St X D s.heap V m->VR X.w D s.heap a u->Aq (A7 BJ X.w) X.A (t u) (AW X VR D s V Q) Dr s
theorem Aa2(h:TR X VR (Ab Bv X.env) V m λa V m=>KR X (λo=>Ud o attr true) a V m Q)
 (he:Ab (Bv.Attribute attr pos) X.env=(do
  let o<-Ab Bv X.env;JE pos.atName;let r<-Jl [o] (Ud o attr true);VE Bv o r;pure r)):TR X VR (Ab (.Attribute Bv attr pos) X.env) V m Q:=λs D hs=>by
 refine Attribute_any_ (TR.go h hs λv AJ mv Ad m₁ Ac h1 h2 h3 h4 h5=>?_) he;exact Bz (h5 AJ Ac v h1 h4) (λa Dp p=>AW.trans hs h2 h3 p) λZ Z x=>x.elim
theorem o_attr(i:EI V a c ks vs)(g:GA X.w.params c name)(hg:H7 ks vs name=some mv)(q:Q mv V m):
 KR X (λo=>Ud o name true) a V m Q:=by
 intro s D u hs hu
 (refine Bc (i.at hs.rs hu) λp d es n A5=>?_;obtain Ex:=A5.1;obtain h1:=A5.2.1;obtain h2:=A5.2.2.1;obtain ak:=A5.2.2.2.1;obtain r:=A5.2.2.2.2;clear A5;subst Ex)
 (refine AI (uy ak r hg) λv A2=>?_;obtain hv:=A2.1;obtain rv:=A2.2;clear A2)
 (refine AI g.attr λat_ BC=>?_;obtain ha:=BC.1;obtain hn:=BC.2;clear BC)
 exact get_value hs.KI (od:=some (Iv es n)) ⟨h1,rfl,rfl,h2⟩ (aO g.get).1 (findObj_own g.dict ha hn (by apply AG (mK ..);exact hv)) (Ag6 rv) (AW.here hs rv q)
theorem AZ4
 (h:TR X VR (Ab Bv X.env) V m λv V m=>TR X VR (Ab o X.env) V m λa V m=>∃x c d ks vs,a=.ref x/\V x=some (.inst c d ks vs)/\GS X.w.params c attr/\ks.length<=100/\Q .next (V.set x (.inst c d (DY ks attr) (Ds ks vs attr v))) m)
 (FH:HJ Bv (some (Expr.Attribute o attr p')) pos.line X.env=pure false):TR X RF (Cj (.Assign [.Attribute o attr p'] Bv pos) X.env) V m Q:=λs D hs=>by
 refine plainObj_wpAny_Assign_Attribute (TR.go h hs λv AJ mv Ad m₁ Ac h1 h2 h3 h4 h5=>TR.go h5 h1 λu A8 mu Dq m₂ Bk g1 g2 g3 g4 g5=>?_) FH;(refine GK g5 λx c d ks vs BM=>?_;refine Cu BM λHt e gs hz q=>?_;clear BM;try clear g5;subst Ht);simp only[AZ]at g4;subst g4
 (refine DF (g1.rs.obj x _ e) λdD hx CB=>?_;refine Ao CB λes n Bj=>?_;refine DF Bj λhd ak r=>?_;clear Bj CB)
 obtain Uw:=g2.vr h1.rs h1.DT h4
 refine AT1 g1.KI hx hd gs.set gs.over gs.AY7 gs.dict (u2 _ ak) (by refine AD ak.length ?_;exact Ah 0x11238f4f200064f20009 rfl hz) λt k h' n' Gj sb=>?_
 obtain Ce:∀b,¬Bk b->b≠d:=λb nb z=>nb (z▸(g1.rs.E8 x c d ks vs e).1)
 obtain⟨a1,a2⟩:=uz (x:=attr) (Fg:=QM X.w.params attr) (t:=t) Uw ak r;have xd:x≠d:=by
  intro z;obtain this:=(g1.rs.E8 x c d ks vs e).2.1;rw[<-z,e]at this;exact sN this
 obtain⟨r1,ML⟩:=g1.rs.upd (CS:=.inst c d (DY ks attr) (Ds ks vs attr mv)) (b:=d) (h':=h') e rfl rfl (λb o ne q=>(sb.2 b ne).trans q)
  ⟨((sb.2 x xd).trans hx),(Aj _ n' (AO Gj a1 (AY.mono (λb o nb q=>(sb.2 b (Ce b nb)).trans q) (λZ Z Z z=>z) _ _ a2)))⟩
 exact(Ar .next _ m₂ Bk (An (g1.next r1 ML) ((h2.trans hs.rs.live g2).trans hs.rs.live ML.Hn) ((h3.trans g3).trans ⟨rfl,rfl,rfl⟩) trivial q))
def KP(X:Cx)(f:Ap):Prop:=∀h,(KK X.w.params).In h->∃k,(k=Keeper.frame\/k=Keeper.machine\/k=Keeper.boundFrame)/\Looks (A7 BJ X.w) h (keeperOf f) k
theorem KP.of(hk:Lw (KK X.w.params) f=true):KP X f:=keeps_K hk
theorem KP.builtin{id}:KP X (.builtin id):=λZ Z=>⟨.machine,⟨(.inr (.inl rfl)),(t9 rfl)⟩⟩
theorem KP.type{id}:KP X (.type id):=λZ Z=>⟨.machine,⟨(.inr (.inl rfl)),(t9 rfl)⟩⟩
theorem Qd(hs:St X D s.heap V m)(hk:KP X f)
 (hf:AY X.w D s.heap mf first)
 (h:TR X AY (F7 (Dl pos (Cr args X.env))) V m λvs V m=>∀s D ws,St X D s.heap V m->AY X.w D s.heap (mf++vs) ws->Aq (A7 BJ X.w) X.A (call f ws) (AW X VR D s V Q) Dr s)
 (he:LO X args pos):
 Aq (A7 BJ X.w) X.A (Qc pos f first (Dl pos (Cr args X.env)) []) (AW X VR D s V Q) Dr s:=by
 cases args with
 |nil=>
  refine gn rfl hk (evalArgs_nil3 ⟨hs.KI,?_⟩);have h':TR X AY (F7 []) V m λvs V m=>∀s D ws,St X D s.heap V m->AY X.w D s.heap (mf++vs) ws->Aq (A7 BJ X.w) X.A (call f ws) (AW X VR D s V Q) Dr s:=h;intro Γ p RD;obtain q:=h' s D hs Γ p RD;(refine Bc q λb AE m' D' B0=>?_;refine Cu B0 λg1 g2 g3 g4 g5=>?_;clear B0;try clear q);cases b with
  |nil=>
   obtain r:=g5 s D' (first++[]) g1 (by simpa using g2.F8 hs.rs hs.DT hf);exact Bz r (λv s' p=>AW.trans hs g2 g3 p) (λZ Z z=>z) Γ p RD
  |cons _ _=>simp only[BD]at g4
 |cons e r=>
  obtain⟨e1,e2⟩:=he e r rfl;rw[e1]at h|-;refine gn (P:=λh=>(KK X.w.params).In h) (by show((false||(Dl pos (Cr r X.env)).any (·.1))||false)=false;refine AD e2 ?_;rfl) hk (xj (TR.go h hs λvs AJ CY Ad m₁ Ac h1 h2 h3 h4 h5=>⟨h1.KI,?_⟩));exact Bz (h5 AJ Ac (first++vs) h1 (AY.append (h2.F8 hs.rs hs.DT hf) h4)) (λv s' p=>AW.trans hs h2 h3 p) λZ Z z=>z
theorem JQ.le(h:JQ A n)(hk:k<=n):JQ A k:=(AO h.1 (by have:=h.2.1;exact AQ 0x114338f4f21046003038f4f2204600309201009 rfl hk this) (by have:=h.2.2;exact qq hk this))
theorem Jg(g:GC w.params c fI)
 (h:∀x d,¬foot V x->¬foot V d->x≠d->Ag w h₀ n fI (.ref x::HD) (V.set x (.inst c d [] [])) λv AE=>v=.none/\Q (.ref x) AE):Ag w h₀ (n+1) c HD V Q:=by
 intro A s D vs hA B r hv;obtain KI:=B.K.keeps λa o e=>(r.base a o e).1;obtain⟨hh,gg,dd,t,os⟩:=s;simp only at KI r hv|-;obtain e0:hh.get? hh.objs.size=none:=FA hh;have e1:hh.get? (hh.objs.size+1)=none:=by
  cases e:hh.get? (hh.objs.size+1)with
  |none=>rfl
  |some o=>exact absurd (EF e) (Ft.mpr (Tq _))
 obtain kp:∀a o,hh.get? a=some o->((hh.push OX).push (IJ c hh.objs.size)).get? a=some o:=λa o e=>DD _ (DD _ e);obtain gd:((hh.push OX).push (IJ c hh.objs.size)).get? hh.objs.size=some OX:=DD _ (Dx _ rfl);have gx:((hh.push OX).push (IJ c hh.objs.size)).get? (hh.objs.size+1)=some (IJ c hh.objs.size):=by
  obtain this:=Dx (hh.push OX) (o:=IJ c hh.objs.size) rfl;rwa[N4]at this
 obtain nf:∀b,hh.get? b=none->¬foot V b:=λb e f=>by obtain⟨o,e'⟩:=Iw r f;exact CO e' e
 obtain⟨r1,ML⟩:=r.alloc (N:=λb=>b=hh.objs.size\/b=hh.objs.size+1) (a:=hh.objs.size+1) (mo:=.inst c hh.objs.size [] []) kp
  (λb hb=>by
   rcases hb with e|e
   ·refine AD e ?_;exact⟨e0,⟨_,gd⟩⟩
   ·refine AD e ?_;exact⟨e1,⟨_,gx⟩⟩) (.inr rfl) ⟨gx,(Aj ([]) 0 (AO gd trivial trivial))⟩ (λd e=>by(obtain zI:=Au e;subst zI);exact⟨.inl rfl,G3 (CP _)⟩)
 obtain AC0:=h (hh.objs.size+1) hh.objs.size (nf _ e1) (nf _ e0) (fb (CP _));have hA':JQ (A.under (.builtin "type.__call__" ⟨.ref c::vs,[]⟩)) n:=by
  refine(AO hA.1 ?_ ?_)
  ·obtain this:=hA.2.1;have e:(W5 "type.__call__" ⟨.ref c::vs,[]⟩).weight=1:=rfl;show A.depth+(W5 "type.__call__" ⟨.ref c::vs,[]⟩).weight+4*n<=900;refine AD e ?_;exact AM 0x11238f4f21046120033038f4f2121034600309 rfl this
  ·obtain this:=hA.2.2;obtain e:(W5 "type.__call__" ⟨.ref c::vs,[]⟩).cUnits<=30:=QJ rfl
   show A.units+(W5 "type.__call__" ⟨.ref c::vs,[]⟩).cUnits+40*n<=9000
   exact AQ 0x111323f2f8f22028f610003301ef2100923f2f8f21220328f600309 rfl this e
 have RA:AY w (λb=>D b\/(b=hh.objs.size\/b=hh.objs.size+1)) ((hh.push OX).push (IJ c hh.objs.size)) (.ref (hh.objs.size+1)::HD) (.ref (hh.objs.size+1)::vs):=by
  simp only[BD,AZ];exact⟨trivial,ML.F8 r (λZ q=>q.elim) hv⟩
 obtain run:=AC0 _ ⟨(hh.push OX).push (IJ c hh.objs.size),gg,dd,t,os⟩ _ _ hA' B r1 RA
 refine make_core (makes_of (M:=A7 BJ w) KI g.makes) (looks_findIn KI g.init) (λself=>bind_fn KI self g.fn) (.inl rfl) (LV run λrs s' p=>?_)
 rcases rs with e|(v|_|_|_)<;>first|exact p.elim|skip
 (refine A1 p λmv AE D' DU=>?_;obtain p1:=DU.1;obtain p2:=DU.2.1;obtain p3:=DU.2.2.1;obtain p4:=DU.2.2.2.1;obtain Sd:=DU.2.2.2.2.1;obtain p5:=DU.2.2.2.2.2;clear DU;try clear p;subst Sd);simp only[AZ]at p4;exact⟨p4,(BK (.ref (hh.objs.size+1)) AE D' (An p1 (ML.trans r.live p2) ⟨p3.gens,p3.drawn,p3.os⟩ (by simp only[AZ]) p5))⟩
end
noncomputable def L9:BU:={objs:=#[]}
noncomputable def Mz(h:BU)(L:AU):List (AU×GG):=(EV h.objs.size).filterMap λa=>if a=L then none else(h.get? a).map λo=>(a,o)
theorem u3(n:a≠L)(e:h.get? a=some o):(a,o)∈Mz h L:=by
 unfold Mz;rw[fS];exact⟨a,⟨(JV.mpr (EF e)),(by refine AG (if_neg n)<|AD e ?_;rfl)⟩⟩
theorem gK(h)(L):News L9 L h (Mz h L):=by
 intro p hp;unfold Mz at hp;rw[fS]at hp;(refine AI hp λa AR=>?_;obtain e:=AR.2;clear AR;try clear hp);split at e
 ·exact nS e
 ·rename_i n;cases q:h.get? a with
  |none=>rw[q]at e;exact nS e
  |some o=>rw[q]at e;(obtain zI:=Au e;subst zI);exact(AO q n rfl)
theorem AY.of_map(k:∀mv v,VR w D h mv v->VR w D' h' mv v):∀{ms vs},AY w D h ms vs->AY w D' h' ms vs
 |[],[],_=>by simp only[BD]
 |_::_,_::_,x=>by simp only[BD]at x|-;exact⟨k _ _ x.1,AY.of_map k x.2⟩
 |[],_::_,x=>by simp only[BD]at x
 |_::_,[],x=>by simp only[BD]at x
section
variable{X:Cx}{V:Hp}{m:Lc}
theorem oR{s:Bq}(hs:St X D s.heap V m):∃mr,Fr L9 X.env.locals s.heap mr/\
 (∀(N:AU->Prop)h',Fr L9 X.env.locals h' mr->News L9 X.env.locals h' (Mz s.heap X.env.locals)->(∀c,N c->s.heap.get? c=none/\∃o,h'.get? c=some o)->
  St X (λc=>D c\/N c) h' V m/\Step (Own X.env) D s.heap V (λc=>D c\/N c) h' V/\∀mv v,VR X.w D s.heap mv v->VR X.w (λc=>D c\/N c) h' mv v):=by
 have f:=hs.fr;(refine AI f.ns λmr Af=>?_;refine BQ Af λns hm=>?_;clear Af);refine⟨mr,⟨⟨ns,λb o e=>(nomatch e),JX _⟩,(λN h' F Nw hN=>?_)⟩⟩;have kp:∀a o,a≠X.env.locals->s.heap.get? a=some o->h'.get? a=some o:=λa o n e=>(Nw _ (u3 n e)).1;have dL:=f.own X.env.locals (.inl rfl);obtain⟨r,st⟩:=hs.rs.AZ1 dL.1 dL.2 kp (let⟨o,_,_,q,_⟩:=F.ns;⟨o,q⟩) hN;have vm:∀mv v,VR X.w D s.heap mv v->VR X.w (λc=>D c\/N c) h' mv v:=λmv v y=>VR.mono (λa o n e=>kp a o (λz=>n (z▸dL.1)) e) (λa o e n q=>q.elim n λz=>CO e (hN a z).1) mv v y;have wU:∀c v,s.heap.IsCell c v->c≠X.env.locals:=λc v hc z=>by
  subst z;(refine A1 ns λo es ep AX=>?_;refine DF AX λe1 e2 Z=>?_;clear AX;try clear ns);(refine AI hc λo' A9=>?_;refine BQ A9 λb1 b2=>?_;clear A9;try clear hc);rw[e1]at b1;cases b1;rw[e2]at b2;cases b2
 have ck:∀c v,s.heap.IsCell c v->h'.IsCell c v:=λc v hc=>let⟨o,a,b⟩:=hc;⟨o,⟨(kp c o (wU c v hc) a),b⟩⟩;refine(AO ⟨r,⟨f.kind,f.glob,f.G7,λa o=>⟨.inl (f.own a o).1,(f.own a o).2⟩,⟨mr,⟨F.ns,(λx mv e k=>?_)⟩⟩,λx mv e=>?_,f.kn,λx c hc=>?_,f.apart⟩,hs.bs,hs.ok,hs.gl,hs.kd⟩ (st.JA (λa z=>.inl z)) vm)
 ·(refine AI (hm x mv e k) λv Ai=>?_;refine BQ Ai λa b=>?_;clear Ai);exact⟨v,⟨a,(vm _ _ b)⟩⟩
 ·rcases f.cell x mv e with q|⟨c,v,a,b,r⟩
  ·exact .inl q
  ·exact .inr (Aj c v (AO a (ck _ _ b) (vm _ _ r)))
 ·obtain⟨v,a⟩:=f.cells x c hc;exact⟨v,ck _ _ a⟩
theorem oU(hs:St X D s.heap V m){ws:List Ap}(hv:AY X.w D s.heap CY ws)(q:∀a,¬foot V a->Q (.ref a) (V.set a (.list CY)) m)
 (h:∀mr,Fr L9 X.env.locals s.heap mr->News L9 X.env.locals s.heap (Mz s.heap X.env.locals)->
  ∀(Q':Ap->Bq->Prop),(∀a n h' tk,Fr L9 X.env.locals h' mr->News L9 X.env.locals h' (Mz s.heap X.env.locals)->s.heap.get? a=none->h'.get? a=some (GN ws.toArray n)->Q' (.ref a) {s with heap:=h',toks:=tk})->Aq (A7 BJ X.w) X.A t Q' Dr s):
 Aq (A7 BJ X.w) X.A t (AW X VR D s V Q) Dr s:=by
 (refine AI (oR hs) λmr A6=>?_;obtain F:=A6.1;obtain k:=A6.2;clear A6);refine h mr F (gK _ _) _ λa n h' tk F' N' hn ha=>?_;(refine DF (k (λc=>c=a) h' F' N' (λc z=>by refine AD z ?_;exact⟨hn,⟨_,ha⟩⟩)) λh1 h2 h3=>?_);have nf:¬foot V a:=λf=>by obtain⟨o,e⟩:=Iw hs.rs f;exact CO e hn
 obtain ZD:=AY.of_map h3 hv;obtain r':=h1.rs.adopt (a:=a) (mo:=.list CY) (.inr rfl) nf (Aj ws.toArray n ⟨ha,ZD⟩) rfl;obtain st:Step (Own X.env) D s.heap V (λc=>D c\/c=a) h' (V.set a (.list CY)):=⟨h2.GJ,h2.H9,λb f=>by
  rcases Qr f with f|f|f
  ·exact .inl f
  ·exact .inr (f▸hn)
  ·exact(nomatch f),h2.keep,h2.live⟩
 have f:=h1.fr;refine(Ar (.ref a) _ m _ (An ⟨r',⟨f.kind,f.glob,f.G7,λb o=>⟨(f.own b o).1,λz=>?_⟩,f.ns,f.cell,f.kn,f.cells,f.apart⟩,hs.bs,hs.ok,hs.gl,hs.kd⟩ st ⟨rfl,rfl,rfl⟩ (by simp only[AZ]) (q a nf)));rcases Qr z with z|z|z
 ·exact(f.own b o).2 z
 ·obtain⟨o',e⟩:=hs.rs.live b (hs.fr.own b o).1;rw[z]at e;exact CO e hn
 ·exact nS z
def JZ(X:Cx)(elts:List Expr)(CY:List MV)(V:Hp)(m:Lc)(Q:Hp->Lc->Prop):Prop:=
 ∀s D vs,St X D s.heap V m->AY X.w D s.heap CY vs->Aq (A7 BJ X.w) X.A (vA ((Iq elts X.env).map (·.2)) vs) (AW X RU D s V λZ V m=>Q V m) Dr s
theorem pP(q:Q V m):JZ X [] [] V m Q:=λs D vs hs hv=>BN (AW.Cm (b:=()) hs trivial q)
theorem bF(h:TA X e mv V m λV m=>JZ X AN CY V m Q)
 (he:Iq (e::AN) X.env=(false,G6 e X.env)::Iq AN X.env):JZ X (e::AN) (mv::CY) V m Q:=λs D vs hs hv=>by
 cases vs with
 |nil=>simp only[BD]at hv
 |cons v vs=>
  simp only[BD]at hv;refine AD he<|Aj0 (Bz (h s D v hs hv.1) (λZ AJ p=>?_) λZ Z x=>x.elim)
  (refine Bc p λZ Ad m₁ Ac BC=>?_;refine Cu BC λh1 h2 h3 Z h5=>?_;clear BC;try clear p);exact Bz (h5 AJ Ac vs h1 (h2.F8 hs.rs hs.DT hv.2)) (λZ A8 p=>AW.trans hs h2 h3 p) λZ Z x=>x
theorem pN(h:JZ X elts CY V m Q)(hl:(Iq elts X.env).length=CY.length)
 (hf:fJ (λx=>x.1) (Iq elts X.env)=none):TA X (.Tuple elts k pos) (.tup CY) V m Q:=λs D v hs hv=>by
 simp only[AZ]at hv;(refine A1 hv λa xs n BM=>?_;obtain Ht:=BM.1;obtain na:=BM.2.1;obtain g:=BM.2.2.1;obtain r:=BM.2.2.2;clear BM;try clear hv;subst Ht);refine Aj1 hs.ok.1 ⟨_,(AO g rfl ⟨n,rfl⟩)⟩ (by refine AG hl<|AG r.length ?_;simp) hf λh' ex=>?_;have kp:∀a o,s.heap.get? a=some o->h'.get? a=some o:=λa o e=>ex a o (λz=>by rw[z]at e;exact CO e (FA _)) e;have st:Step Ff D s.heap V D h' V:=Step.grow kp;have Cy:=hs.next (hs.rs.grow kp) st;exact Bz (h {s with heap:=h'} D xs.toList Cy (st.F8 hs.rs (λZ q=>q.elim) r)) (λZ A8 p=>AW.trans (AJ:={s with heap:=h'}) hs st.Hn ⟨rfl,rfl,rfl⟩ p) λZ Z x=>x
theorem pf(h:TR X VR (Ab Bv X.env) V m λv V m=>TA X (.Tuple elts k J1) v V m λV m=>Q .next V m)
 (FH:pJ [.Tuple elts k J1] Bv pos.line X.env=pure false) (hss:PW [.Tuple elts k J1] Bv X.env=pure none):
 TR X RF (Cj (.Assign [.Tuple elts k J1] Bv pos) X.env) V m Q:=λs D hs=>by
 refine Assign_Tuple (TR.go h hs λv AJ mv Ad m₁ Ac h1 h2 h3 h4 h5=>?_) FH hss;refine Bz (h5 AJ Ac v h1 h4) (λZ A8 p=>?_) λZ Z x=>x.elim;(refine Bc p λZ AE m' D' CB=>?_;obtain g1:=CB.1;obtain g2:=CB.2.1;obtain g3:=CB.2.2.1;obtain g5:=CB.2.2.2.2;clear CB;try clear p);exact(Ar .next AE m' D' (An g1 (h2.trans hs.rs.live g2) (h3.trans g3) trivial g5))
theorem Ab3(h:TR X VR (Ab e X.env) V m λZ V m=>Q .next V m)(FH:HJ e none pos.line X.env=pure false):TR X RF (Cj (.Expr e pos) X.env) V m Q:=λs D hs=>by
 refine wpAny_Expr_any (TR.go h hs λv AJ mv Ad m₁ Ac h1 h2 h3 h4 h5=>(Ar .next Ad m₁ Ac (An h1 h2 h3 trivial h5))) ?_ FH;unfold interactive;refine AD hs.fr.kind ?_;rfl
theorem Aa3(hx:CT m x=some (.int i))
 (h:TR X VR (Ab Bv X.env) V m λv V m=>∃j,v=.int j/\BG m x=true/\Q .next V (DS m x (.int (i+j)))) (hd:(x==("__debug__":AV))=false) (hc:(x==("__classdict__":AV))=false):
 TR X RF (Cj (.AugAssign (.Name x p') .Add Bv pos) X.env) V m Q:=λs D hs=>by
 refine wpAny_AugAssign_Name ?_;obtain hld:∀{Q'},(∀t,Q' (.int i t) s)->Aq (A7 BJ X.w) X.A (mI X.env x) Q' Dr s:=λ{Q'} q=>by
  rcases hs.fr.kn x (NQ hx)with k|⟨k,c,EX⟩
  ·(refine AI hs.fr.ns λmr Bj=>?_;obtain ns:=Bj.1;obtain hm:=Bj.2;clear Bj);(refine AI (hm x _ hx k) λv B0=>?_;obtain a:=B0.1;obtain b:=B0.2;clear B0);simp only[AZ]at b;obtain⟨t,rfl⟩:=b;exact WB hs.fr.kind k ns a (q t)
  ·rcases hs.fr.cell x _ hx with k'|⟨c,v,a,b,r⟩
   ·rw[k']at k;rcases k with k|k<;>cases k
   ·simp only[AZ]at r;obtain⟨t,rfl⟩:=r;rcases k with k|k
    ·exact Aj8 hs.fr.kind k a b (q t)
    ·exact Aj9 hs.fr.kind k a b (q t) hc
 refine hld λt=>TR.go h hs λv AJ mv Ad m₁ Ac h1 h2 h3 h4 h5=>?_;(refine AI h5 λj Cb=>?_;obtain JM:=Cb.1;obtain hh:=Cb.2.1;obtain q:=Cb.2.2;clear Cb;try clear h5;subst JM);simp only[AZ]at h4;obtain⟨u,rfl⟩:=h4;refine iadd_int<|Bz (SA (s:={AJ with toks:=AJ.toks+1}) (mv:=.int (i+j)) (Q:=λZ V m=>Q .next V m) h1 DB hh q) (λZ A8 p=>?_) λZ Z x=>x.elim
 (refine Bc p λZ AE m' D' Bt=>?_;obtain g1:=Bt.1;obtain g2:=Bt.2.1;obtain g3:=Bt.2.2.1;obtain g5:=Bt.2.2.2.2;clear Bt;try clear p);exact(Ar .next AE m' D' (An g1 (h2.trans hs.rs.live g2) (h3.trans (CV.trans (b:={AJ with toks:=AJ.toks+1}) ⟨rfl,rfl,rfl⟩ g3)) trivial g5))
theorem AK6(ha:B_ V a l)(hb:B_ V b r)(hz:l.length+r.length<=100000)(q:∀p,¬foot V p->Q (.ref p) (V.set p (.list (l++r))) m):BO X (HX .Add) a b V m Q:=by
 intro s D u v hs hu hv;(refine A1 (ha.at hs.rs hu) λp xs n DU=>?_;obtain Sd:=DU.1;obtain g:=DU.2.1;obtain rl:=DU.2.2;clear DU;subst Sd);(refine A1 (hb.at hs.rs hv) λp' ys n' Dg=>?_;obtain bu:=Dg.1;obtain g':=Dg.2.1;obtain rr:=Dg.2.2;clear Dg;subst bu);refine oU hs (ws:=xs.toList++ys.toList) (rl.append rr) q λmr F N Q' k=>add_arrays F N ⟨_,(AO g rfl ⟨n,rfl⟩)⟩ ⟨_,(AO g' rfl ⟨n',rfl⟩)⟩ (λh' F' N'=>k _ 0 h' s.toks F' (λp hp=>N' p (.tail _ hp)) (FA _) (N' _ (.head _)).1)
  (by obtain h1:=rl.length;obtain h2:=rr.length;simp at h1 h2;refine AD JC ?_;exact CM 0x110101610f0f0f0f0f0f210003010204900304918f6faf0f22030309 rfl hz h1 h2)
theorem AL5(ha:B_ V a [x])(h1:k<=100000)(h0:-100000<=k)(q:∀p,¬foot V p->Q (.ref p) (V.set p (.list (CD k.toNat x))) m):BO X (HX .Mult) a (.int k) V m Q:=by
 intro s D u v hs hu hv;(refine A1 (ha.at hs.rs hu) λp xs n FP=>?_;obtain Sf:=FP.1;obtain g:=FP.2.1;obtain rl:=FP.2.2;clear FP;subst Sf);simp only[AZ]at hv;obtain⟨t,rfl⟩:=hv;obtain⟨xl⟩:=xs;have:∃y,xl=[y]/\VR X.w D s.heap x y:=GZ rl;(refine AI this λy Gv=>?_;obtain bz:=Gv.1;obtain ry:=Gv.2;clear Gv;try clear this;subst bz);obtain rep:∀j,AY X.w D s.heap (CD j x) (CD j y):=λj=>by
  induction j with
  |zero=>simp only[CD,BD]
  |succ j ih=>simp only[CD,BD];exact⟨ry,ih⟩
 obtain fold:∀j acc,List.foldl (λx1 x2=>x1++x2) acc (CD j #[y])=acc++(CD j y).toArray:=λj=>by
  induction j with
  |zero=>intro acc;simp
  |succ j ih=>intro acc;refine AD tq<|AG DW<|AG (ih ..)<|AD tq ?_;apply Array.ext';simp
 refine oU hs (rep k.toNat) q λmr F N Q' k'=>mul_list F N g (Aw 0x1120180f0f0f0f0f0f0f0f0f0f0f0f0f0f0f2510118f6faf0f2519 rfl h0) (Aw 0x11280f0f0f0f0f0f0f0f0f0f0f0f0f0f0f201318f6faf0f20119 rfl h1) (by simp;exact Aw 0x11210f0f0f0f0f0f201118f6faf0f20119 rfl h1) λh' F' N'=>k' _ 0 h' s.toks F' (λp hp=>N' p (.tail _ hp)) (FA _) ?_;obtain this:=(N' _ (.head _)).1;apply AG this;have e0:(#[y]:Array Ap).isEmpty=false:=rfl;refine AD (show(if(#[y]:Array Ap).isEmpty=true then 0 else k.toNat)=k.toNat from by rw[e0];rfl)<|AD (fold ..) ?_
 simp
end
def Dk(X:Cx)(f:Ap)(as:List MV)(V:Hp)(m:Lc)(Q:MV->Hp->Lc->Prop):Prop:=
 ∀s D vs,St X D s.heap V m->AY X.w D s.heap as vs->Aq (A7 BJ X.w) X.A (call f vs) (AW X VR D s V Q) Dr s
structure GB(P:Fu)(x:AV)(v:Ap):Prop where
 no:Jt (KK P) Ea x=some none
 val:gY x=some v
 nn:x≠"__name__"
theorem gR(x y):(x.toList==y.toList)=(Fs x==Fs y):=by
 have inj:∀a b:List UInt8,(a.map λc=>(c.toNat:Int))=(b.map λc=>(c.toNat:Int))->a=b:=by
  intro a;induction a with
  |nil=>intro b h;cases b<;>simp at h;rfl
  |cons c a ih=>
   intro b h;cases b with
   |nil=>simp at h
   |cons d b=>
    simp only[By,Dj]at h;obtain e:=UInt8.toNat_inj.mp (by obtain this:=h.1;exact Ia h.1);rw[ih b h.2,e]
 rw[Bool.eq_iff_iff,beq_iff_eq,beq_iff_eq];exact⟨λh=>by unfold Fs;exact AD h rfl,λh=>inj _ _ h⟩
section
variable{X:Cx}{V:Hp}{m:Lc}{Q:MV->Hp->Lc->Prop}
theorem Aa8(g:GB X.w.params x v)(hx:X.G.contains x=true)(hv:KP X v)
 (h:TR X AY (F7 (Dl pos (Cr args X.env))) V m λvs V m=>Dk X v vs V m Q)
 (he:LO X args pos) (hd:(x==("__debug__":AV))=false):TR X VR (Ab (.Call (.Name x np) args [] pos) X.env) V m Q:=λs D hs=>by
 refine qL (mJ hs hx g.no g.val g.nn ?_ hd)
 exact Qd (mf:=[]) hs hv (by simp only[BD]) (TR.mono h λvs V m q s D ws h1 h2=>q s D ws h1 h2) he
theorem AW.grow(hs:St X D s.heap V m)(kp:∀a o,s.heap.get? a=some o->h'.get? a=some o)(r:VR X.w D h' mv v)(q:Q mv V m):
 AW X VR D s V Q v {s with heap:=h',toks:=t}:=AW.next hs (hs.rs.grow kp) (Step.grow kp) r q
theorem AN1(ha:B_ V a l)(hz:l.length<=1000000)(q:Q (.int l.length) V m):Dk X (.builtin "len") [a] V m Q:=by
 intro s D vs hs hv;(refine AI (GZ hv) λu AX=>?_;obtain Cs:=AX.1;obtain hu:=AX.2;clear AX;subst Cs);(refine A1 (ha.at hs.rs hu) λp xs n Ai=>?_;obtain Eb:=Ai.1;obtain g:=Ai.2.1;obtain r:=Ai.2.2;clear Ai;subst Eb);obtain hl:l.length=xs.size:=by apply AG r.length;simp
 refine Calls.call_len_list ⟨_,(AO g rfl ⟨n,rfl⟩)⟩ (AM 0x1101480f0f0f0f0f0f0f0f0f0f0f0f0f0f0f200830010490ff4f2f4f0f21009 rfl hz hl) (AW.here hs ?_ q);refine AD hl ?_;exact DB
theorem AN2(hz:l.length<=1000000)(q:Q (.int l.length) V m):Dk X (.builtin "len") [.bytes l] V m Q:=by
 intro s D vs hs hv;(refine AI (GZ hv) λu A6=>?_;refine BQ A6 λHv hu=>?_;clear A6;subst Hv);simp only[AZ]at hu;(refine Ao hu λb t BC=>?_;obtain K4:=BC.1;obtain hb:=BC.2;clear BC;try clear hu;subst K4);exact KBw.len_K hb (qp hz) (AW.here hs DB q)
theorem AN4(q:Q (.int (max a b)) V m):Dk X (.builtin "max") [.int a,.int b] V m Q:=by
 intro s D vs hs hv;(refine Ao (J3 hv) λu v Bx=>?_;obtain JK:=Bx.1;obtain hu:=Bx.2.1;obtain hw:=Bx.2.2;clear Bx;subst JK);simp only[AZ]at hu hw;obtain⟨t,rfl⟩:=hu;obtain⟨t',rfl⟩:=hw;refine max_two_ints hs.ok.1 λh' tk kp=>AW.grow hs kp ?_ q;split
 ·refine AD (show max a b=b by exact Bd 0x11211210031003111101b5110139 rfl (by assumption)) ?_;exact DB
 ·refine AD (show max a b=a by exact Bd 0x1003100311031013011101b51101369 rfl (by assumption)) ?_;exact DB
theorem AN5(q:Q (.int (min a b)) V m):Dk X (.builtin "min") [.int a,.int b] V m Q:=by
 intro s D vs hs hv;(refine Ao (J3 hv) λu v Bj=>?_;obtain JL:=Bj.1;obtain hu:=Bj.2.1;obtain hw:=Bj.2.2;clear Bj;subst JL);simp only[AZ]at hu hw;obtain⟨t,rfl⟩:=hu;obtain⟨t',rfl⟩:=hw;refine min_two_ints hs.ok.1 λh' tk kp=>AW.grow hs kp ?_ q;split
 ·refine AD (show min a b=b by exact Bd 0x10031003112112111101a5011139 rfl (by assumption)) ?_;exact DB
 ·refine AD (show min a b=a by exact Bd 0x1013110310031003011101a50111369 rfl (by assumption)) ?_;exact DB
theorem AN8(q:Q (.D2 0 b) V m):Dk X (.type "range") [.int b] V m Q:=by
 intro s D vs hs hv;(refine AI (GZ hv) λu Cb=>?_;obtain JM:=Cb.1;obtain hu:=Cb.2;clear Cb;subst JM);simp only[AZ]at hu;obtain⟨t,rfl⟩:=hu;refine call_range_1 (AW.grow hs (λa o e=>DD _ e) ?_ q);simp only[AZ];exact(Ar _ _ _ _ (AO rfl (MA hs.rs) (tC ..)))
theorem AN9(q:Q (.D2 a b) V m):Dk X (.type "range") [.int a,.int b] V m Q:=by
 intro s D vs hs hv;(refine Ao (J3 hv) λu v Bt=>?_;obtain JN:=Bt.1;obtain hu:=Bt.2.1;obtain hw:=Bt.2.2;clear Bt;subst JN);simp only[AZ]at hu hw;obtain⟨t,rfl⟩:=hu;obtain⟨t',rfl⟩:=hw;refine call_range_2 (AW.grow hs (λa o e=>DD _ e) ?_ q);simp only[AZ];exact(Ar _ _ _ _ (AO rfl (MA hs.rs) (tC ..)))
theorem bP:∀{ns vs},AY w D h (ns.map .int) vs->∃xs,vs.toArray=RJ xs/\xs.toList.map (·.1)=ns
 |[],[],_=>⟨(#[]),⟨(by simp[RJ]),rfl⟩⟩
 |n::ns,v::vs,x=>by
  simp only[By,BD,AZ]at x;obtain⟨⟨t,rfl⟩,r⟩:=x;(refine AI (bP r) λxs Ct=>?_;obtain e1:=Ct.1;obtain e2:=Ct.2;clear Ct);refine⟨(((n,t)::xs.toList).toArray),⟨?_,(by simp[e2])⟩⟩;obtain this:vs=(RJ xs).toList:=by exact AD (A0 e1) rfl
  refine AD this ?_;simp[RJ]
 |[],_::_,x=>by simp only[OB,BD]at x
 |_::_,[],x=>by simp only[By,BD]at x
theorem intsAre_of:∀{ns vs},AY w D h (ns.map .int) vs->XE vs ns
 |[],[],_=>.nil
 |n::ns,v::vs,x=>by
  simp only[By,BD,AZ]at x;obtain⟨⟨t,rfl⟩,r⟩:=x;exact .cons _ _ (intsAre_of r)
 |[],_::_,x=>by simp only[OB,BD]at x
 |_::_,[],x=>by simp only[By,BD]at x
theorem numAt_eq(h:xs.toList.map (·.1)=ns)(i):MB xs i=ns.getD i 0:=by
 unfold MB;rw[<-h,Ej,EU,Ge]
theorem AQ2(ns:List Int):∀i,i<=ns.length->Rz (λj=>ns.getD j 0) i=(ns.take i).sum:=by
 intro i;induction i with
 |zero=>intro _;simp[Rz]
 |succ i ih=>
  intro h;obtain e:Rz (λj=>ns.getD j 0) (i+1)=Rz (λj=>ns.getD j 0) i+ns.getD i 0:=by simp[Rz,Int.add_comm]
  obtain hi:i<ns.length:=by exact Np h
  obtain e2:ns.take (i+1)=ns.take i++[ns.getD i 0]:=by(refine AG List.take_add_one<|AD (Ee hi) ?_;rw[Ej];refine AD (Ee hi) ?_);rfl
  refine AG e<|AD (ih (Sm h))<|AD e2<|AD t6 ?_;simp
theorem pG:∀l:List Int,(∀x∈l,0<=x)->0<=l.sum:=λl=>by
 induction l with
 |nil=>intro _;simp
 |cons a l ih=>intro h;obtain this:=h a (.head _);obtain this:=ih λx hx=>h x (.tail _ hx);simp only[XW];exact Bd 0x111311013021110219010219 rfl (by assumption) this
theorem pH:∀(ns:List Int),(∀x∈ns,0<=x)->∀i,0<=(ns.take i).sum/\(ns.take i).sum<=ns.sum
 |[],_,i=>by simp
 |n::ns,hb,i=>by
  obtain hn:=hb n (.head _);obtain nn:=pG ns λx hx=>hb x (.tail _ hx);cases i with
  |zero=>simp;exact Bd 0x111311013021110219010219 rfl hn nn
  |succ i=>
   obtain h0:=pH ns (λx hx=>hb x (.tail _ hx)) i;simp only[fU,XW];exact DR 0x110041011421013110131110130217211111102179010219 rfl hn h0
theorem mX:∀(ns:List Int),(∀x∈ns,0<=x)->∀x∈ns,x<=ns.sum
 |[],_,x,hx=>by cases hx
 |n::ns,hb,x,hx=>by
  obtain hn:=hb n (.head _);obtain nn:=pG ns λx hx=>hb x (.tail _ hx);simp only[XW];rcases CH.mp hx with rfl|hx
  ·exact Bd 0x11211013011110219 rfl nn
  ·obtain this:=mX ns (λx hx=>hb x (.tail _ hx)) x hx;exact DR 0x111321113011210119110219 rfl hn this
theorem AO1{ns:List Int}(ha:B_ V a (ns.map .int))(hb:∀x∈ns,0<=x)(Cy:ns.sum<2^60)(q:Q (.int ns.sum) V m):Dk X (.builtin "sum") [a] V m Q:=by
 intro s D vs hs hv;(refine AI (GZ hv) λu Dg=>?_;refine BQ Dg λbu hu=>?_;clear Dg;subst bu);(refine A1 (ha.at hs.rs hu) λp xs n FP=>?_;refine DF FP λSf g r=>?_;clear FP;(try clear hv;try clear hu;subst Sf));(refine AI (bP r) λys Gv=>?_;refine BQ Gv λe1 e2=>?_;clear Gv);obtain X7:xs=RJ ys:=by exact AD (A0 e1) rfl
 subst X7;have hlen:ys.size=ns.length:=by refine AD (A0 e2) ?_;simp
 have pre:∀i,i<=ns.length->Rz (MB ys) i=(ns.take i).sum:=λi hi=>by
  refine AD (show MB ys=λj=>ns.getD j 0 from funext λj=>numAt_eq e2 j) ?_;exact AQ2 ns i hi
 obtain Vv:=pH ns hb;obtain AI0:=mX ns hb;refine sum_intList hs.ok.1 ⟨_,(AO g rfl ⟨n,rfl⟩)⟩ (λj hj=>?_) λh' tk t' kp=>AW.grow hs kp (by refine AD (pre _ (by exact AM 72392945085448265 (by kernel_rfl) hlen))<|AD hlen<|AD t7 ?_;exact DB) q;(rw[numAt_eq e2];refine AD (pre _ (by exact AQ 84204177077716816501673041993 (by kernel_rfl) hlen hj)) ?_);have Er:j<ns.length:=by exact AQ 20557660338894491750506569 (by kernel_rfl) hlen hj
 have hx:ns.getD j 0∈ns:=by(rw[Ej];refine AD (Ee Er) ?_);exact N_ Er
 have h1:=hb _ hx;have h2:=AI0 _ hx;have h3:=Vv (j+1);unfold InLong;constructor<;>constructor<;>omega
theorem argBest_lt:∀k,QV f k<=k
 |0=>BX _
 |k+1=>by
  obtain this:=argBest_lt (f:=f) k;unfold QV;split<;>omega
theorem gP(g:Nat->Int):∀k,(∀j,j<=k->g (QV (λi j=>decide (g i<g j)) k)<=g j)
 |0=>λj hj=>by
  obtain this:j=0:=by exact Ah 0x110311202004020009 rfl hj
  subst this;exact FY _
 |k+1=>λj hj=>by
  obtain ih:=gP g k;unfold QV;by_cases h:g (k+1)<g (QV (λi j=>decide (g i<g j)) k)
  ·refine AD (if_pos (by simpa using h)) ?_;rcases Mr j (k+1)with q|q
   ·obtain this:=ih j (Sn q);exact DR 0x111311011112119210139 rfl h this
   ·obtain this:j=k+1:=by exact AM 0x1103101312103004001210309121030009 rfl hj q
    subst this;exact FY _
  ·refine AD (if_neg (by simpa using h)) ?_;rcases Mr j (k+1)with q|q
   ·exact ih j (Sn q)
   ·obtain this:j=k+1:=by exact AM 0x1103101312103004001210309121030009 rfl hj q
    subst this;exact Bd 77142839880913769 rfl h
theorem AN6{ns:List Int}(ha:B_ V a (ns.map .int))(Ce:ns≠[])(q:∀x,x∈ns->(∀y∈ns,x<=y)->Q (.int x) V m):Dk X (.builtin "min") [a] V m Q:=by
 intro s D vs hs hv;(refine AI (GZ hv) λu Hw=>?_;obtain Sg:=Hw.1;obtain hu:=Hw.2;clear Hw;subst Sg);(refine A1 (ha.at hs.rs hu) λp xs n HO=>?_;obtain b7:=HO.1;obtain g:=HO.2.1;obtain r:=HO.2.2;clear HO;subst b7);(refine AI (bP r) λys Nm=>?_;refine BQ Nm λe1 e2=>?_;clear Nm);obtain X7:xs=RJ ys:=by exact AD (A0 e1) rfl
 subst X7;have hlen:ys.size=ns.length:=by refine AD (A0 e2) ?_;simp
 have ky:0<ns.length:=tZ.mpr Ce;refine min_intList hs.ok.1 ⟨_,(AO g rfl ⟨n,rfl⟩)⟩ (AM 0x1110400022100229100049 rfl hlen ky) λv h' tk lH kp=>?_;have hb:=argBest_lt (f:=λi j=>decide (MB ys i<MB ys j)) (ys.size-1);have hm:=gP (MB ys) (ys.size-1);generalize QV (λi j=>decide (MB ys i<MB ys j)) (ys.size-1)=k at lH hb hm;have hk:k<ns.length:=by exact AQ 0x1101006110001610002122040009100229102049 rfl hlen ky hb
 obtain⟨t,rfl⟩:=intItems_at lH;obtain hx:ns.getD k 0∈ns:=by(rw[Ej];refine AD (Ee hk) ?_);exact N_ hk
 refine AW.grow hs kp DB (q _ (by rw[numAt_eq e2];exact hx) λy hy=>?_);obtain⟨j,hj,rfl⟩:=List.mem_iff_getElem.mp hy;have:=hm j (AQ 0x11110510110512104000200029201049 rfl hlen hj);rw[numAt_eq e2 j,Ej,Ee hj]at this;exact this
theorem AM5(ha:B_ V a (ns.map .int))(hr:∀n∈ns,0<=n/\n<256)(hz:ns.length<=100000)(q:Q (.bytes ns) V m):Dk X (.type "bytes") [a] V m Q:=by
 intro s D vs hs hv;(refine AI (GZ hv) λu Pn=>?_;obtain b8:=Pn.1;obtain hu:=Pn.2;clear Pn;subst b8);(refine A1 (ha.at hs.rs hu) λp xs n K8=>?_;obtain b_:=K8.1;obtain g:=K8.2.1;obtain r:=K8.2.2;clear K8;subst b_);obtain hlen:ns.length=xs.size:=by obtain this:=r.length;simpa using this
 obtain hL:s.heap.IsList p xs.toList.toArray:=by refine AD Array.toArray_toList ?_;exact⟨_,(AO g rfl ⟨n,rfl⟩)⟩
 exact call_bytes_ints hL (intsAre_of r) hr (by refine AD eA<|AD JC ?_;exact So hz hlen) hs.ok.1 λh' t k kp=>AW.grow hs kp (by simp only[AZ];exact(Aj _ t ⟨rfl,(KBa.ints_make hr)⟩)) q
theorem vR(q:Q (.bool (a==b)) V m):BO X (DZ .Eq) (.bytes a) (.bytes b) V m Q:=by
 intro s D u v hs hu hv;simp only[AZ]at hu hv;(refine Ao hu λx t Po=>?_;obtain Al3:=Po.1;obtain cA:=Po.2;clear Po;try clear hu;subst Al3;subst cA);(refine Ao hv λy t' Pq=>?_;obtain cB:=Pq.1;obtain Al5:=Pq.2;clear Pq;try clear hv;subst cB;subst Al5);refine eq_bytes (AW.Cm hs ?_ q);refine AD (gR ..) ?_;exact Fn
theorem ve(q:Q (.bool (a != b)) V m):BO X (DZ .NotEq) (.bytes a) (.bytes b) V m Q:=by
 intro s D u v hs hu hv;simp only[AZ]at hu hv;(refine Ao hu λx t Nn=>?_;obtain cC:=Nn.1;obtain cD:=Nn.2;clear Nn;try clear hu;subst cC;subst cD);(refine Ao hv λy t' JO=>?_;obtain cE:=JO.1;obtain cF:=JO.2;clear JO;try clear hv;subst cE;subst cF);refine ne_bytes (AW.Cm hs ?_ q);rw[show(x.toList != y.toList)=(Fs x != Fs y)from by simp only[bne];rw[gR]];exact Fn
theorem vU(q:Q (.bool (a==b)) V m):BO X (DZ .Eq) (.str a) (.str b) V m Q:=by
 intro s D u v hs hu hv;simp only[AZ]at hu hv;obtain⟨t,rfl⟩:=hu;obtain⟨t',rfl⟩:=hv;exact eq_str (AW.Cm hs Fn q)
theorem vZ(q:Q (.bool true) V m):BO X (DZ .Is) .none .none V m Q:=by
 intro s D u v hs hu hv;simp only[AZ]at hu hv;subst hu hv;exact wpAny_is_plain rfl (AW.Cm hs Fn q)
theorem va(q:Q (.bool false) V m):BO X (DZ .Is) (.int i) .none V m Q:=by
 intro s D u v hs hu hv;simp only[AZ]at hu hv;obtain⟨t,rfl⟩:=hu;subst hv;exact wpAny_is_other rfl (by intro h;cases h) (AW.Cm hs Fn q)
theorem vh(q:Q (.bool false) V m):BO X (DZ .IsNot) .none .none V m Q:=by
 intro s D u v hs hu hv;simp only[AZ]at hu hv;subst hu hv;exact wpAny_isNot_plain rfl (AW.Cm hs Fn q)
theorem vi(q:Q (.bool true) V m):BO X (DZ .IsNot) (.int i) .none V m Q:=by
 intro s D u v hs hu hv;simp only[AZ]at hu hv;obtain⟨t,rfl⟩:=hu;subst hv;exact wpAny_isNot_other rfl (by intro h;cases h) (AW.Cm hs Fn q)
end
noncomputable def Ak{α:Type}[DecidableEq α]:List (α×Int)->α->Option Int
 |[],_=>none
 |(k,v)::r,x=>if k=x then some v else Ak r x
theorem Ha:(∀{α:Type}[inst:DecidableEq α](x:α),Ak [] x=Tz)/\(∀{α:Type}[inst:DecidableEq α](x k:α)(v:Int)(r:List (α×Int)),Ak ((k,v)::r) x=if k=x then Im v else Ak r x):=⟨by intros;rfl,by intros;rfl⟩
noncomputable def dput{α:Type}[DecidableEq α]:List (α×Int)->α->Int->List (α×Int)
 |[],x,v=>[(x,v)]
 |(k,u)::r,x,v=>if k=x then(k,v)::r else(k,u)::dput r x v
theorem OT:(∀{α:Type}[inst:DecidableEq α](x:α)(BE:Int),dput [] x BE=[(x,BE)])/\(∀{α:Type}[inst:DecidableEq α](x:α)(BE:Int)(k:α)(u:Int)(r:List (α×Int)),dput ((k,u)::r) x BE=if k=x then(k,BE)::r else(k,u)::dput r x BE):=⟨by intros;rfl,by intros;rfl⟩
theorem iJ{α:Type}[DecidableEq α]{a k}{b:Int}{r:List (α×Int)}(h:a≠k):Ak ((a,b)::r) k=Ak r k:=if_neg h
theorem wz{α:Type}[DecidableEq α]{a}{b:Int}{r:List (α×Int)}:Ak ((a,b)::r) a=some b:=if_pos rfl
theorem iN{α:Type}[DecidableEq α]{k}{v:Int}(l:List (α×Int)):Ak l k=none->dput l k v=l++[(k,v)]:=by
 induction l with
 |nil=>exact λZ=>rfl
 |cons p r ih=>
  intro e;by_cases q:p.1=k
  ·exact sN ((if_pos q).symm.trans e)
  ·exact(if_neg q).trans (congrArg (XI p) (ih ((if_neg q).symm.trans e)))
section
variable{α K γ:Type}[DecidableEq α][DecidableEq K]{f:α->K}{g:γ->Ap}{l:List (α×Int)}{xs:List (K×γ)}{k:α}
theorem yG{k b}{r:List (K×γ)}:((((k,b)::r).find? λx=>decide (x.1=k)).map (·.2))=some b:=by rw[TY,decide_eq_true (show(k,b).1=k from rfl)];rfl
theorem yH{a k b}{r:List (K×γ)}(h:a≠k):((((a,b)::r).find? λx=>decide (x.1=k)).map (·.2))=((r.find? λx=>decide (x.1=k)).map (·.2)):=by rw[TY,decide_eq_false (show¬(a,b).1=k from h)]
theorem KV.i_(inj:∀a b,f a=f b->a=b)(h:KV f g l xs):match Ak l k with
 |some v=>∃c t,((xs.find? λx=>decide (x.1=f k)).map (·.2))=some c/\g c=.int v t
 |none=>((xs.find? λx=>decide (x.1=f k)).map (·.2))=none:=
 KV.ind (P:=λl xs=>match Ak l k with
  |some v=>∃c t,((xs.find? λx=>decide (x.1=f k)).map (·.2))=some c/\g c=.int v t
  |none=>((xs.find? λx=>decide (x.1=f k)).map (·.2))=none) rfl (λa i t v r r' e Z ih=>by
   by_cases q:a=k
   ·subst q;rw[wz];exact⟨v,t,yG,e⟩
   ·rw[iJ q,yH λz=>q (inj _ _ z)];exact ih) l xs h
theorem KV.some(inj:∀a b,f a=f b->a=b)(h:KV f g l xs)(e:Ak l k=some v):∃c t,((xs.find? λx=>decide (x.1=f k)).map (·.2))=some c/\g c=.int v t:=by have:=h.i_ inj (k:=k);rw[e]at this;exact this
theorem KV.none(inj:∀a b,f a=f b->a=b)(h:KV f g l xs)(e:Ak l k=none):((xs.find? λx=>decide (x.1=f k)).map (·.2))=none:=by have:=h.i_ inj (k:=k);rw[e]at this;exact this
theorem KV.length(h:KV f g l xs):l.length=xs.length:=KV.ind (f:=f) (g:=g) (P:=λl xs=>l.length=xs.length) rfl (λZ Z Z Z Z Z Z Z ih=>congrArg uO ih) l xs h
theorem KV.cons(e:g c=.int i t)(h:KV f g l xs):KV f g ((k,i)::l) ((f k,c)::xs):=⟨rfl,⟨t,e⟩,h⟩
theorem KV.app(e:g c=.int i t)(h:KV f g l xs):KV f g (l++[(k,i)]) (xs++[(f k,c)]):=KV.ind (P:=λl xs=>KV f g (l++[(k,i)]) (xs++[(f k,c)])) (.cons (l:=[]) (xs:=[]) e trivial) (λZ Z Z Z Z Z e Z ih=>.cons e ih) l xs h
theorem KV.map{i:Int}{t}{u:γ->γ}(inj:∀a b,f a=f b->a=b)(e:∀c,g (u c)=.int i t)(h:KV f g l xs):(xs.map (·.1)).Nodup->(Ak l k).isSome=true->KV f g (dput l k i) (xs.map λx=>if x.1=f k then(x.1,u x.2)else x):=
 KV.ind (P:=λl xs=>(xs.map (·.1)).Nodup->(Ak l k).isSome=true->KV f g (dput l k i) (xs.map λx=>if x.1=f k then(x.1,u x.2)else x)) (λZ z=>fT z) (λa j t' v r r' e' hr ih nd hd=>by
  have nd:=LJ.mp nd;rw[By];by_cases q:a=k
  ·subst q;rw[if_pos (show(f a,v).1=f a from rfl),show(r'.map λx=>if x.1=f a then(x.1,u x.2)else x)=r'.map id from OA (λx hx=>if_neg λz=>nd.1 (DJ.mpr ⟨x,hx,z⟩)),List.map_id];rw[show dput ((a,j)::r) a i=(a,i)::r from if_pos rfl];exact .cons (e v) hr
  ·rw[if_neg (show¬(f a,v).1=f k from λz=>q (inj _ _ z))];rw[show dput ((a,j)::r) k i=(a,j)::dput r k i from if_neg q];exact .cons e' (ih nd.2 (iJ q▸hd))) l xs h
end
theorem ZU(a b)(h:kp a=kp b):a=b:=XZ (N9 h).1 (N9 (N9 h).2).1
theorem Fb.get(h:Fb l kvs)(e:Ak l k=some v):∃t,valueAt kvs k=some (.int v t):=(KV.some (λZ Z=>id) h e).elim λc z=>z.elim λt z=>⟨t,z.1.trans (congrArg some z.2)⟩
theorem Fb.none(h:Fb l kvs)(e:Ak l k=none):valueAt kvs k=none:=KV.none (λZ Z=>id) h e
theorem Fb.length(h:Fb l kvs):l.length=kvs.length:=KV.length h
theorem u7{K γ:Type}[DecidableEq K](k)(xs:List (K×γ)):(xs.any λx=>decide (x.1=k))=((xs.find? λx=>decide (x.1=k)).map (·.2)).isSome:=by
 induction xs with
 |nil=>rfl
 |cons x r ih=>
  rw[XH,TY];cases decide (x.1=k)with
  |true=>rfl
  |false=>exact ih
theorem Fb.any(k:Int)(h:Fb l kvs):kvs.any (λkv=>decide (kv.1=k))=(Ak l k).isSome:=by
 apply(u7 k kvs).trans;cases e:Ak l k with
 |some v=>exact(h.get e).elim λt z=>congrArg uU z
 |none=>exact congrArg uU (h.none e)
theorem Fb.append(h:Fb l kvs):Fb (l++[(k,v)]) (kvs++[(k,.int v t)]):=KV.app (f:=id) (g:=id) rfl h
theorem Fb.stored{l kvs}{k v:Int}{t:Tok}(h:Fb l kvs)(nd:(kvs.map (·.1)).Nodup):Fb (dput l k v) (ue kvs k (.int v t)):=by
 unfold ue;rw[h.any k];cases e:Ak l k with
 |some u=>exact KV.map (f:=id) (g:=id) (u:=λZ=>.int v t) (λZ Z=>id) (λZ=>rfl) h nd (by rw[e];rfl)
 |none=>rw[iN l e];exact h.append
theorem H4.get(h:H4 l xs)(e:Ak l k=some v):∃a t,atKey xs [k.1,k.2]=some (a,.int v t):=(KV.some (f:=kp) (g:=vp) ZU h e).elim λc z=>z.elim λt z=>⟨c.1,t,z.1.trans (congrArg some (XZ rfl z.2))⟩
theorem H4.none(h:H4 l xs)(e:Ak l k=none):atKey xs [k.1,k.2]=none:=KV.none (f:=kp) (g:=vp) ZU h e
theorem H4.length(h:H4 l xs):l.length=xs.length:=KV.length h
theorem H4.stored{k}{v:Int}{a}{t:Tok}(h:H4 l xs)(nd:(xs.map (·.1)).Nodup):H4 (dput l k v) (PU xs [k.1,k.2] a (.int v t)):=by
 unfold PU;cases e:Ak l k with
 |some u=>
  (refine Ao (h.get e) λad t' e'=>?_);rw[e'];exact KV.map (f:=kp) (g:=vp) (u:=λc=>(c.1,.int v t)) ZU (λZ=>rfl) h nd (by rw[e];rfl)
 |none=>rw[h.none e,iN l e];exact KV.app (f:=kp) (g:=vp) rfl h
def Lv(V:Hp)(a:MV)(l:List (Int×Int)):Prop:=a=.di l\/∃x,a=.ref x/\V x=some (.di l)
def Jn(V:Hp)(a:MV)(l:List ((Int×Int)×Int)):Prop:=a=.dp l\/∃x,a=.ref x/\V x=some (.dp l)
section
variable{X:Cx}{V:Hp}{m:Lc}{Q:MV->Hp->Lc->Prop}
theorem Lv.at(x:Lv V a l)(r:RS w h₀ D h V)(hv:VR w D h a v):∃p,v=.ref p/\Ii w h p l:=by
 rcases x with rfl|⟨p,rfl,e⟩
 ·simp only[AZ]at hv;(refine AI hv λp CB=>?_;obtain e:=CB.1;obtain d:=CB.2.2;clear CB;try clear hv);exact⟨p,⟨e,d⟩⟩
 ·simp only[AZ]at hv;exact⟨p,⟨hv,((r.obj p _ e).2)⟩⟩
theorem Jn.at(x:Jn V a l)(r:RS w h₀ D h V)(hv:VR w D h a v):∃p,v=.ref p/\Hz w D h p l:=by
 rcases x with rfl|⟨p,rfl,e⟩
 ·simp only[AZ]at hv;(refine AI hv λp Bj=>?_;obtain e:=Bj.1;obtain d:=Bj.2.2;clear Bj;try clear hv);exact⟨p,⟨e,d⟩⟩
 ·simp only[AZ]at hv;exact⟨p,⟨hv,((r.obj p _ e).2)⟩⟩
theorem RI:(ik w).is k (.int k t)=true:=by show QP k (.int k t)=true;simp[QP]
theorem SF(hv:VR w D h (.tup [.int a,.int b]) v):∃p,v=.ref p/\¬D p/\(tk w).is h [a,b] p:=by
 simp only[AZ]at hv;(refine A1 hv λp xs n B0=>?_;obtain Hu:=B0.1;obtain nd:=B0.2.1;obtain g:=B0.2.2.1;obtain r:=B0.2.2.2;clear B0;try clear hv;subst Hu);(refine Ao (J3 r) λu u' Cg=>?_;obtain e:=Cg.1;obtain h1:=Cg.2.1;obtain h2:=Cg.2.2;clear Cg);simp only[AZ]at h1 h2;obtain⟨t,rfl⟩:=h1;obtain⟨t',rfl⟩:=h2;refine⟨p,(AO rfl nd ?_)⟩;show IsTupleKey (ik w) h [a,b] p;refine(BK _ xs n (BR g rfl rfl ?_));refine AD e<|.cons RI (.cons RI .nil)
theorem Vy(h:JQ A n):(tk w).room A.in1:=by
 obtain this:=h.2.2;show A.units+1<9900;exact AM 0x28f011426fafcf212003223f2f8f21028f600309 rfl this
theorem AK8(ha:Lv V a l)(hk:Ak l k=some v)(q:Q (.int v) V m)(Cy:LN slice):BO X (J0 Bv slice) a (.int k) V m Q:=by
 intro s D u w hs hu hw;(refine AI (ha.at hs.rs hu) λp Bt=>?_;obtain JN:=Bt.1;obtain n1:=Bt.2.1;obtain Ct:=Bt.2.2;refine AI Ct λkvs Dg=>?_;obtain hd:=Dg.1;obtain iv:=Dg.2;clear Dg Ct Bt;subst JN);simp only[AZ]at hw;obtain⟨t,rfl⟩:=hw;obtain⟨t',e⟩:=iv.get hk;exact Vx hd.typeIs AT7.lookup (wpAny_getItem_of RI hd.mapOf e (AW.here hs DB q)) (Cy _ _)
theorem AL6(ha:Jn V a l)(hk:Ak l (i,j)=some v)(q:Q (.int v) V m)(Cy:LN slice):BO X (J0 Bv slice) a (.tup [.int i,.int j]) V m Q:=by
 intro s D u w hs hu hw;(refine AI (ha.at hs.rs hu) λp Ec=>?_;obtain Se:=Ec.1;obtain n1:=Ec.2.1;obtain FQ:=Ec.2.2;refine AI FQ λxs Gv=>?_;obtain hd:=Gv.1;obtain hx:=Gv.2.1;obtain iv:=Gv.2.2;clear Gv FQ Ec;subst Se);(refine AI (SF hw) λkp Hw=>?_;obtain Sg:=Hw.1;obtain nd:=Hw.2.1;obtain ks:=Hw.2.2;clear Hw;subst Sg);(refine Ao (iv.get hk) λad t' e=>?_);(refine A1 (id hd) λo es ep HO=>?_;obtain h1:=HO.1;obtain h2:=HO.2.1;obtain h3:=HO.2.2;clear HO);exact Vx ⟨o,⟨h1,h2.1⟩⟩ AT7.lookup (wpAny_getItem_heap (Vy hs.ok) ks hd e (AW.here hs DB q)) (Cy _ _)
theorem vY(ha:Jn V a l)(q:Q (.bool (Ak l (i,j)).isSome) V m):BO X (DZ .In) (.tup [.int i,.int j]) a V m Q:=by
 intro s D u w hs hu hw;(refine AI (ha.at hs.rs hw) λp WJ=>?_;obtain Al1:=WJ.1;obtain n1:=WJ.2.1;obtain Pn:=WJ.2.2;refine AI Pn λxs K7=>?_;obtain hd:=K7.1;obtain hx:=K7.2.1;obtain iv:=K7.2.2;clear K7 Pn WJ;subst Al1);(refine AI (SF hu) λkp K8=>?_;obtain b_:=K8.1;obtain nd:=K8.2.1;obtain ks:=K8.2.2;clear K8;subst b_);refine wpAny_in_heap (Vy hs.ok) ks (by simpa using n1) hd (AW.here hs ?_ q);have e:(atKey xs [i,j]).isSome=(Ak l (i,j)).isSome:=by
  cases h:Ak l (i,j)with
  |some v=>(refine Ao (iv.get h) λad t' e=>?_);refine AD e ?_;rfl
  |none=>refine AD (iv.none h) ?_;rfl
 refine AD e ?_;exact Fn
theorem AP0{d l k v Q}(e:V d=some (.di l))(hz:l.length<=100000)(q:Q (V.set d (.di (dput l k v))) m):JY X (.ref d) (.int k) (.int v) V m Q:=by
 intro s D u w x hs hu hw hx;simp only[AZ]at hu hw hx;subst hu;obtain⟨t,rfl⟩:=hw;obtain⟨t',rfl⟩:=hx;(obtain cI:=(hs.rs.obj d _ e);obtain dD:=cI.1;obtain n1:=cI.2.1;obtain Po:=cI.2.2;refine AI Po λkvs Pp=>?_;obtain hd:=Pp.1;obtain iv:=Pp.2;clear Pp Po);refine wpAny_setItem_pairs RI hd (λh' Gj sb=>?_) (by refine AD (A0 iv.length)<|AD JC ?_;exact WT hz);obtain nd:(kvs.map (·.1)).Nodup:=(by(refine A1 hd λZ Z Z CB=>?_;obtain hn:=CB.2.2.2.2.2;clear CB;try clear hd);exact hn);obtain⟨r1,s1⟩:=hs.rs.upd (CS:=.di (dput l k v)) (b:=d) (h':=h') e rfl rfl (λc o ne q=>(sb.2 c ne).trans q) ⟨n1,⟨_,⟨Gj,(iv.stored nd)⟩⟩⟩;exact AW.next (b:=()) hs r1 s1 trivial q
theorem AP1{d l i j v Q}(e:V d=some (.dp l))(hz:l.length<=100000)(q:Q (V.set d (.dp (dput l (i,j) v))) m):JY X (.ref d) (.tup [.int i,.int j]) (.int v) V m Q:=by
 intro s D u w x hs hu hw hx;(refine AI (SF hw) λkp WK=>?_;obtain Al4:=WK.1;obtain nk:=WK.2.1;obtain ks:=WK.2.2;clear WK;subst Al4);simp only[AZ]at hu hx;subst hu;obtain⟨t',rfl⟩:=hx;(obtain cU:=(hs.rs.obj d _ e);obtain dD:=cU.1;obtain n1:=cU.2.1;obtain qd:=cU.2.2;refine AI qd λxs K9=>?_;obtain hd:=K9.1;obtain hx:=K9.2.1;obtain iv:=K9.2.2;clear K9 qd);refine wpAny_setItem_heap (Vy hs.ok) ks hd (λh' Gj sb=>?_) (by refine AD (A0 iv.length)<|AD JC ?_;exact WT hz);have nd:(xs.map (·.1)).Nodup:=(by(refine A1 hd λZ Z Z Bj=>?_;obtain hn:=Bj.2.2.2.2.2;clear Bj;try clear hd);exact hn);obtain⟨r1,s1⟩:=hs.rs.upd (CS:=.dp (dput l (i,j) v)) (b:=d) (h':=h') e rfl rfl (λc o ne q=>(sb.2 c ne).trans q) ⟨n1,_,Gj,λx II=>by
  unfold PU at II;split at II
  ·(refine AI (DJ.mp II) λy Nn=>?_;obtain hy:=Nn.1;obtain cC:=Nn.2;clear Nn;subst cC);unfold putAt;split<;>exact hx y hy
  ·rcases DX.mp II with z|z
   ·exact hx x z
   ·simp only[D7]at z;refine AD z ?_;exact nk,iv.stored (k:=(i,j)) nd⟩
 exact AW.next (b:=()) hs r1 s1 trivial q
theorem mq{s:Bq}(hs:St X D s.heap V m){mo:MO}(ho:mo=.di []\/mo=.dp [])(ns:s.heap.objs.size≠Ku):
 RS X.w X.h₀ (λb=>D b\/b=s.heap.objs.size) (s.heap.push {cls:=.type "dict",data:=.dict #[]}) (V.set s.heap.objs.size mo)/\Step Ff D s.heap V (λb=>D b\/b=s.heap.objs.size) (s.heap.push {cls:=.type "dict",data:=.dict #[]}) (V.set s.heap.objs.size mo):=by
 refine hs.rs.alloc (N:=λb=>b=s.heap.objs.size) (λa o e=>DD _ e) (λb e=>by refine AD e ?_;exact⟨(FA _),⟨_,(Dx _ rfl)⟩⟩) rfl ?_ (λd e=>by rcases ho with rfl|rfl<;>exact nS e);rcases ho with rfl|rfl
 ·exact⟨ns,⟨([]),⟨(sU s.heap),trivial⟩⟩⟩
 ·exact⟨ns,⟨([]),(AO (BK _ (#[]) 0 (Cc (Dx _ rfl) (AO rfl rfl rfl) rfl rfl (λx hx=>nomatch hx) .nil)) (λx hx=>nomatch hx) trivial)⟩⟩
theorem QZ(hs:St X D h V m):h.objs.size≠Ku:=by
 (refine Bc hs.bs.g λmg o es ep qf=>?_;obtain e:=qf.1;clear qf);have:=EF (hs.rs.base _ _ e).1;have e1:Ea=3:=rfl;have e2:Ku=1:=rfl;rw[e1]at this;intro z;rw[e2]at z;rw[z]at this;exact absurd this (by decide)
theorem Ab1{pos:G4}(q:∀d,¬foot V d->Q (.ref d) (V.set d (.di [])) m):TR X VR (Ab (.Dict [] [] pos) X.env) V m Q:=λs D hs=>by
 obtain⟨r,st⟩:=mq hs (.inl rfl) (QZ hs);exact Ai9 (AW.next (t:=s.toks) hs r st (by simp only[AZ]) (q _ λf=>by obtain⟨o,e⟩:=Iw hs.rs f;exact CO e (FA _)))
theorem Ab2{pos:G4}(q:∀d,¬foot V d->Q (.ref d) (V.set d (.dp [])) m):TR X VR (Ab (.Dict [] [] pos) X.env) V m Q:=λs D hs=>by
 obtain⟨r,st⟩:=mq hs (.inr rfl) (QZ hs);exact Ai9 (AW.next (t:=s.toks) hs r st (by simp only[AZ]) (q _ λf=>by obtain⟨o,e⟩:=Iw hs.rs f;exact CO e (FA _)))
def IsT(X:Cx)(V:Hp)(m:Lc)(a:MV)(T:String):Prop:=∀(s:Bq)D v,St X D s.heap V m->VR X.w D s.heap a v->s.TypeIs v T/\∀p,v=.ref p->∃o,s.heap.get? p=some o/\o.dict=none
theorem ZM(ha:B_ V a l):IsT X V m a "list":=λs D v hs hv=>by
 (refine A1 (ha.at hs.rs hv) λp xs n JO=>?_;obtain cE:=JO.1;obtain g:=JO.2.1;obtain r:=JO.2.2;clear JO;subst cE);exact⟨⟨_,⟨g,rfl⟩⟩,λp e=>by cases e;exact⟨_,⟨g,rfl⟩⟩⟩
theorem AC8(ha:Lv V a l):IsT X V m a "dict":=λs D v hs hv=>by
 (refine AI (ha.at hs.rs hv) λp WL=>?_;obtain Al7:=WL.1;obtain n1:=WL.2.1;obtain qg:=WL.2.2;refine AI qg λkvs K_=>?_;obtain qc:=K_.1;obtain iv:=K_.2;clear K_ qg WL;subst Al7;(refine A1 qc λo es ep B0=>?_;obtain h1:=B0.1;obtain h2:=B0.2.1;obtain h3:=B0.2.2;clear B0;try clear qc));exact⟨⟨o,⟨h1,h2.1⟩⟩,λp e=>by cases e;exact⟨o,⟨h1,h2.2.1⟩⟩⟩
theorem lW:IsT X V m (.int i) "int":=λs D v hs hv=>by
 simp only[AZ]at hv;obtain⟨t,rfl⟩:=hv;exact⟨typeIs_int s i t,λp e=>by cases e⟩
structure LF(T:String)(name:AV)(id:String):Prop where
 plain:PlainAttrs T
 slot:Slot T name id
 ty:typeOf (.builtin id)=pure (.type "method_descriptor")
theorem Ac0{apos pos args T id}(g:LF T name id)
 (h:TR X VR (Ab o X.env) V m λa V m=>IsT X V m a T/\TR X AY (F7 (Dl pos (Cr args X.env))) V m λws V m=>Dk X (.builtin id) (a::ws) V m Q)
 (he:LO X args pos)
 (hm:Ab (.Call (.Attribute o name apos) args [] pos) X.env=(do
  let ov<-Ab o X.env;JE apos.atName;let(f,first)<-Jl [ov] (YV ov name (do return (<-ZJ o X.env).getD true));Qc pos f first (Dl pos (Cr args X.env)) [])):TR X VR (Ab (.Call (.Attribute o name apos) args [] pos) X.env) V m Q:=λs D hs=>by
 refine fW (TR.go h hs λv AJ mv Ad m₁ Ac h1 h2 h3 h4 h5=>?_) hm;obtain⟨hT,Q1⟩:=h5;obtain⟨t1,t2⟩:=hT AJ Ac v h1 h4;refine yu t1 g.plain g.slot g.ty t2<|Bz (Qd (mf:=[mv]) (first:=[v]) h1 KP.builtin (by simp only[BD];exact⟨h4,trivial⟩) (TR.mono Q1 λvs V m q s D ws h1 h2=>q s D ws h1 h2) he) (λa Dp p=>AW.trans hs h2 h3 p) λZ Z z=>z
theorem yS:LF "list" "append" "list.append":=⟨ef,slot_list_append,by show UH _=_;refine AD UI ?_;kernel_rfl⟩
theorem yU:LF "list" "pop" "list.pop":=⟨ef,sO,by show UH _=_;refine AD UI ?_;kernel_rfl⟩
theorem yT:LF "list" "index" "list.index":=⟨ef,sM,by show UH _=_;refine AD UI ?_;kernel_rfl⟩
theorem jL:LF "dict" "get" "dict.get":=⟨F.plainAttrs_dict,eh,by show UH _=_;refine AD UI ?_;kernel_rfl⟩
theorem jK:LF "int" "bit_length" "int.bit_length":=⟨F.plainAttrs_int,F.slot_int_bit_length,by show UH _=_;refine AD UI ?_;kernel_rfl⟩
theorem AM4(e:V d=some (.list l))(hz:l.length<=100000)(q:Q .none (V.set d (.list (l++[v]))) m):Dk X (.builtin "list.append") [.ref d,v] V m Q:=by
 intro s D vs hs hv;(refine Ao (J3 hv) λu x qh=>?_;refine DF qh λAl9 hu hx=>?_;clear qh;subst Al9);simp only[AZ]at hu;(try clear hv;subst hu);(refine BQ (hs.rs.obj d _ e) λdD qj=>?_;refine Ao qj λxs n qk=>?_;refine BQ qk λg r=>?_;clear qk qj);obtain hlen:l.length=xs.size:=by apply AG r.length;simp
 refine Aj7 ⟨n,g⟩ (λh' hp sb=>?_) (by refine AD JC ?_;exact So hz hlen);obtain⟨n',g'⟩:=hp;obtain Ce:∀c,¬D c->c≠d:=λc nd z=>nd (z▸dD);obtain mono:=λmv v y=>VR.mono (λc o nd q=>(sb.2 c (Ce c nd)).trans q) (λZ Z Z z=>z) mv v y;obtain⟨r1,s1⟩:=hs.rs.upd (CS:=.list (l++[v])) (b:=d) (h':=h') e rfl rfl (λc o ne q=>(sb.2 c ne).trans q) ⟨xs.push x,n',g',by
  refine AD rp<|AY.append (AY.of_map mono r) (by simp only[BD];exact⟨mono _ _ hx,trivial⟩)⟩
 exact AW.next hs r1 s1 (by simp only[AZ]) q
theorem AN7(e:V d=some (.list (l++[x])))(hz:l.length<=100000)(q:Q x (V.set d (.list l)) m):Dk X (.builtin "list.pop") [.ref d] V m Q:=by
 intro s D vs hs hv;(refine AI (GZ hv) λu cX=>?_;obtain Am0:=cX.1;obtain hu:=cX.2;clear cX;subst Am0);simp only[AZ]at hu;subst hu;(obtain qW:=(hs.rs.obj d _ e);obtain dD:=qW.1;obtain ql:=qW.2;refine Ao ql λxs n cY=>?_;obtain g:=cY.1;obtain r:=cY.2;clear cY ql);obtain hlen:l.length+1=xs.size:=by obtain this:=r.length;simpa using this
 (refine AI (r.get (k:=l.length) (m:=x) (by simp)) λy cZ=>?_;obtain hy:=cZ.1;obtain ry:=cZ.2;clear cZ);have split:∀l vs,AY X.w D s.heap (l++[x]) vs->∃us y,vs=us++[y]/\AY X.w D s.heap l us/\VR X.w D s.heap x y:=by
  intro l;induction l with
  |nil=>intro vs h;(refine AI (GZ h) λu cb=>?_;obtain Am1:=cb.1;obtain hu:=cb.2;clear cb;subst Am1);exact(Aj ([]) u (AO rfl (by simp only[BD]) hu))
  |cons a l ih=>
   intro vs h;cases vs with
   |nil=>simp only[GD,BD]at h
   |cons v vs=>
    simp only[GD,BD]at h;(refine Ao (ih vs h.2) λus y WM=>?_;obtain Am2:=WM.1;obtain h1:=WM.2.1;obtain h2:=WM.2.2;clear WM;subst Am2);exact(Aj (v::us) y (AO rfl (by simp only[BD];exact⟨h.1,h1⟩) h2))
 (refine Ao (split l _ r) λus y' WN=>?_;obtain e1:=WN.1;obtain h1:=WN.2.1;obtain h2:=WN.2.2;clear WN);obtain hx:xs=(us++[y']).toArray:=by exact AD (A0 e1) rfl
 subst hx;obtain hus:=h1.length.symm;obtain hk:(us++[y']).toArray.size-1=us.length:=by simp
 obtain ZF:(us++[y']).toArray[(us++[y']).toArray.size-1]? =some y':=by refine AD hk ?_;simp
 have he:((us++[y']).toArray).eraseIdxIfInBounds us.length=us.toArray:=by
  obtain this:=kl_erase us [] y';simpa using this
 refine vn sO ⟨_,⟨g,rfl⟩⟩ F.entry_list_pop (F.args_list_pop_1 _) (Ao8 d _ n y' ZF (by refine AD JC ?_;simp;exact AM 0x101140ffffffffffff200010004918f6faf0f21009 rfl hz hus)) ⟨g,?_⟩;obtain sb:=TQ s.heap d (OE λxs=>xs.eraseIdxIfInBounds ((us++[y']).toArray.size-1));have g':(s.heap.update d (OE λxs=>xs.eraseIdxIfInBounds ((us++[y']).toArray.size-1))).get? d=some (GN us.toArray (n+1)):=by
  obtain this:=Ao7 (h:=s.heap) (l:=d) (items:=(us++[y']).toArray) (n:=n) g (λxs=>xs.eraseIdxIfInBounds ((us++[y']).toArray.size-1));rw[hk,he]at this;refine AD hk ?_;obtain e2:(us.toArray.size==(us++[y']).toArray.size)=false:=by simp
  rw[show ua _ d us.toArray (if(us.toArray.size==(us++[y']).toArray.size)=true then n else n+1)=ua _ d us.toArray (n+1)from by rw[e2];rfl]at this;exact this
 generalize s.heap.update d (OE λxs=>xs.eraseIdxIfInBounds ((us++[y']).toArray.size-1))=h' at sb g'|-;obtain Ce:∀c,¬D c->c≠d:=λc nd z=>nd (z▸dD);obtain mono:=λmv v y=>VR.mono (λc o nd q=>(sb.2 c (Ce c nd)).trans q) (λZ Z Z z=>z) mv v y;obtain⟨r1,s1⟩:=hs.rs.upd (CS:=.list l) (b:=d) (h':=h') e rfl rfl (λc o ne q=>(sb.2 c ne).trans q) (Aj us.toArray (n+1) ⟨g',(AY.of_map mono h1)⟩);exact AW.next (t:=s.toks) hs r1 s1 (mono _ _ h2) q
theorem AN0{ns:List Int}{k:Int}(ha:B_ V a (ns.map .int))(hk:k∈ns)(hz:ns.length<=100000)(q:Q (.int (ns.idxOf k:Nat)) V m):Dk X (.builtin "list.index") [a,.int k] V m Q:=by
 intro s D vs hs hv;(refine Ao (J3 hv) λu x WO=>?_;obtain Am3:=WO.1;obtain hu:=WO.2.1;obtain hx:=WO.2.2;clear WO;subst Am3);(refine A1 (ha.at hs.rs hu) λp xs n WQ=>?_;obtain Am4:=WQ.1;obtain g:=WQ.2.1;obtain r:=WQ.2.2;clear WQ;subst Am4);simp only[AZ]at hx;obtain⟨t,rfl⟩:=hx;obtain⟨vs⟩:=xs;have hi:=intsAre_of r;have hlen:=hi.length;have hj:ns.idxOf k<ns.length:=fP.mpr hk;refine vn sM ⟨_,⟨g,rfl⟩⟩ F.entry_list_index (F.args_list_index_2 _ _)
  (SeqAt.list_indexAt p vs.toArray n none #[] (.int k t) (isInt k) (ns.idxOf k) (by simpa[hlen]using hj) (AM 0x11131280f0f0f0f0f0f0f0f0f0f0f0f0f0f0f24008310002918f6faf0f21009 rfl hz hj) ?_ ?_) (AO g (λy hy=>(iY k t hi y (eC.mpr hy)).at _ _) (AW.here hs DB q))
 ·show isInt k vs[ns.idxOf k]=true;refine AD (isInt_at k hi _ (by exact AQ 20628495836137536429756489 (by kernel_rfl) hlen hj) hj) ?_;simpa using List.getElem_idxOf hj
 ·intro j hjs Cq;show isInt k vs[j]=false;refine AD (isInt_at k hi j (by have:=hjs;simp at this;exact this) (AQ 0x111310002200029102029 rfl hj Cq))<|ne_of_lt_idxOf Cq _
theorem AM8(ha:Lv V a l)(q:Q (.int ((Ak l k).getD d)) V m):Dk X (.builtin "dict.get") [a,.int k,.int d] V m Q:=by
 intro s D vs hs hv;(refine A1 (Ag7 hv) λu x y Sj=>?_;obtain Am5:=Sj.1;obtain hu:=Sj.2.1;obtain hx:=Sj.2.2.1;obtain hy:=Sj.2.2.2;clear Sj;clear hv;subst Am5);(refine AI (ha.at hs.rs hu) λp WR=>?_;obtain Am6:=WR.1;obtain n1:=WR.2.1;obtain qm:=WR.2.2;refine AI qm λkvs cj=>?_;obtain hd:=cj.1;obtain iv:=cj.2;clear cj qm WR;subst Am6);simp only[AZ]at hx hy;obtain⟨t,rfl⟩:=hx;obtain⟨t',rfl⟩:=hy;refine vo eh hd.typeIs sL (sH _ _ _) (meets_dict_get_default (ik X.w) p RI (by simpa using n1) (.int d t')) ⟨_,⟨hd.mapOf,?_⟩⟩;cases h:Ak l k with
 |some v=>obtain⟨tt,e⟩:=iv.get h;refine AD e ?_;rw[h]at q;exact AW.here hs DB q
 |none=>refine AD (iv.none h) ?_;rw[h]at q;exact AW.here hs DB q
theorem nX(q:Q (.int (Ih i)) V m):Dk X (.builtin "int.bit_length") [.int i] V m Q:=by
 intro s D vs hs hv;(refine AI (GZ hv) λu cn=>?_;obtain Am7:=cn.1;obtain hu:=cn.2;clear cn;subst Am7);simp only[AZ]at hu;obtain⟨t,rfl⟩:=hu;exact call_int_bit_length (AW.here hs DB q)
end
section
variable{X:Cx}{V:Hp}{m:Lc}
theorem Af4(h:TR X VR Nh V m λv V m=>∃k,v=.bool k/\Q k V m)
 (he:Fv e X.env Nh=(do let v<-Nh;JE e.pos;Jl [v] (p_ v))):TR X RB (Fv e X.env Nh) V m Q:=λs D hs=>by
 refine wpAny_isTrue_value (TR.go h hs λv AJ mv Ad m₁ Ac h1 h2 h3 h4 h5=>?_) he;(refine AI h5 λk AR=>?_;obtain C4:=AR.1;obtain q:=AR.2;clear AR;try clear h5;subst C4);simp only[AZ]at h4;subst h4;exact Pf (Ar k Ad m₁ Ac (An h1 h2 h3 rfl q))
theorem Aa6(h:TR X VR (M1 pos op (UT values X.env)) V m Q):TR X VR (Ab (.BoolOp op values pos) X.env) V m Q:=h
theorem Ad4(h:TR X VR (Ab e X.env) V m Q):TR X VR (M1 pos op (UT [e] X.env)) V m Q:=h
theorem vL
 (h:Aq M A x (λv AJ=>Aq M A (p_ v) (λt A8=>match op,t with
  | .And,false| .Or,true=>Q v A8
  |_,_=>Aq M A (M1 pos op (y::r)) Q E A8) E AJ) E s):Aq M A (M1 pos op (x::y::r)) Q E s:=by
 show Aq M A (do
  let v<-x;JE pos;let t<-Jl [v] (p_ v);match op,t with
  | .And,false| .Or,true=>pure v
  |_,_=>M1 pos op (y::r)) Q E s
 refine Ae (Bz h (λv AJ C8=>Ae (J_ (Ae (F9 (Bz C8 (λt A8 Fh=>?_) λZ Z x=>x))))) λZ Z x=>x);cases op<;>cases t<;>first|exact BN Fh|exact Fh
theorem ph
 (h:TR X VR (Ab x X.env) V m λv V m=>∃k,v=.bool k/\if k=true then TR X VR (M1 pos .And (UT (y::r) X.env)) V m Q else Q (.bool false) V m):
 TR X VR (M1 pos .And (UT (x::y::r) X.env)) V m Q:=λs D hs=>by
 refine vL (TR.go h hs λv AJ mv Ad m₁ Ac h1 h2 h3 h4 h5=>?_);(refine AI h5 λk AX=>?_;obtain Cs:=AX.1;obtain q:=AX.2;clear AX;try clear h5;subst Cs);simp only[AZ]at h4;subst h4;apply Pf;cases k with
 |true=>rw[if_pos rfl]at q;exact TR.fin q h1 hs h2 h3
 |false=>rw[if_neg (by decide)]at q;exact(Ar (.bool false) Ad m₁ Ac (An h1 h2 h3 (by simp only[AZ]) q))
theorem Ad6
 (h:TR X VR (Ab l X.env) V m λa V m=>TR X VR (Ab R7 X.env) V m λb V m=>BO X (DZ Rv) a b V m λc V m=>∃k,c=.bool k/\
  if k=true then TR X VR (Ab R8 X.env) V m λd V m=>BO X (DZ Rw) b d V m Q else Q (.bool false) V m)
 (hm:RT [Rv,Rw] [R7,R8]=false):TR X VR (Ab (.Compare l [Rv,Rw] [R7,R8] pos) X.env) V m Q:=λs D hs=>by
 refine Compare_chain (TR.go h hs λa AJ ma Ad m₁ Ac h1 h2 h3 h4 h5=>chain_link (TR.go h5 h1 λb A8 mb Dq m₂ Bk g1 g2 g3 g4 g5=>?_)) hm;refine Bz (g5 A8 Bk a b g1 (g2.vr h1.rs h1.DT h4) g4) (λc Dp p=>?_) λZ Z x=>x;(refine Bc p λmc Gd Hk Fq Ai=>?_;refine Cu Ai λk1 k2 k3 k4 A5=>?_;refine AI A5 λk A6=>?_;refine BQ A6 λHv q=>?_;clear A6 A5 Ai;try clear p;subst Hv);simp only[AZ]at k4;subst k4;apply Pf;obtain st:=(h2.trans hs.rs.live g2).trans hs.rs.live k2;obtain sr:=(h3.trans g3).trans k3;cases k with
 |false=>rw[if_neg (by decide)]at q|-;exact(Ar (.bool false) Gd Hk Fq (An k1 st sr (by simp only[AZ]) q))
 |true=>
  rw[if_pos rfl]at q|-;refine chain_last (TR.go q k1 λd GX md Ig Js FW p1 p2 p3 p4 p5=>?_);exact Bz (p5 GX FW b d p1 (p2.vr k1.rs k1.DT (k2.vr g1.rs g1.DT g4)) p4) (λZ bE p=>AW.trans hs (st.trans hs.rs.live p2) (sr.trans p3) p) λZ Z x=>x
theorem Ad5
 (h:TR X VR (Ab l X.env) V m λa V m=>TR X VR (Ab R7 X.env) V m λb V m=>BO X (DZ Rv) a b V m λc V m=>∃k,c=.bool k/\
  if k=true then TR X VR (Ab R8 X.env) V m λd V m=>BO X (DZ Rw) b d V m λc V m=>∃k,c=.bool k/\Q k V m else Q false V m)
 (hm:RT [Rv,Rw] [R7,R8]=false):TR X RB (Fv (.Compare l [Rv,Rw] [R7,R8] pos) X.env Nh) V m Q:=λs D hs=>by
 refine isTrue_chain (TR.go h hs λa AJ ma Ad m₁ Ac h1 h2 h3 h4 h5=>test_link (TR.go h5 h1 λb A8 mb Dq m₂ Bk g1 g2 g3 g4 g5=>?_)) hm;refine Bz (g5 A8 Bk a b g1 (g2.vr h1.rs h1.DT h4) g4) (λc Dp p=>?_) λZ Z x=>x;(refine Bc p λmc Gd Hk Fq BC=>?_;refine Cu BC λk1 k2 k3 k4 BM=>?_;refine AI BM λk Bx=>?_;refine BQ Bx λJK q=>?_;clear Bx BM BC;try clear p;subst JK);simp only[AZ]at k4;subst k4;apply Pf;obtain st:=(h2.trans hs.rs.live g2).trans hs.rs.live k2;obtain sr:=(h3.trans g3).trans k3;cases k with
 |false=>rw[if_neg (by decide)]at q|-;exact(Ar false Gd Hk Fq (An k1 st sr rfl q))
 |true=>
  rw[if_pos rfl]at q|-;refine test_last (TR.go q k1 λd GX md Ig Js FW p1 p2 p3 p4 p5=>?_);refine Bz (p5 GX FW b d p1 (p2.vr k1.rs k1.DT (k2.vr g1.rs g1.DT g4)) p4) (λZ bE p=>?_) λZ Z x=>x;(refine Bc p λmc d9 VK TF Bj=>?_;refine Cu Bj λe1 e2 e3 e4 B0=>?_;refine AI B0 λk Cb=>?_;refine BQ Cb λJM q=>?_;clear Cb B0 Bj;try clear p;subst JM);simp only[AZ]at e4;subst e4;exact Pf (Ar k d9 VK TF (An e1 ((st.trans hs.rs.live p2).trans hs.rs.live e2) ((sr.trans p3).trans e3) rfl q))
theorem Ae5(q:Q (.int (-i)) V m):TR X VR (Ab (.UnaryOp .USub (.Constant (.int i) k pos) pos') X.env) V m Q:=
 λs D hs=>UnaryOp_ (bW (neg_int (AW.here (s:=s) hs DB q)))
def OG(_:CE)(_:AU->Prop)(_:BU)(k:Option Int)(v:Ap):Prop:=IsPart v k
theorem Af0{Q:Option Int->Hp->Lc->Prop}(q:Q none V m):TR X OG (Qn none X.env) V m Q:=λs D hs=>BN (AW.Cm (b:=none) hs .none q)
theorem Af1{Q:Option Int->Hp->Lc->Prop}(h:TR X VR (Ab e X.env) V m λv V m=>∃i,v=.int i/\Q (some i) V m):TR X OG (Qn (some e) X.env) V m Q:=λs D hs=>
 TR.go (t:=Ab e X.env) h hs λa AJ mv Ad m₁ Ac h1 h2 h3 h4 h5=>by
  (refine AI h5 λi Bt=>?_;obtain JN:=Bt.1;obtain q:=Bt.2;clear Bt;try clear h5;subst JN);simp only[AZ]at h4;obtain⟨t,rfl⟩:=h4;exact(Ar (some i) Ad m₁ Ac (An h1 h2 h3 (.int i t) q))
noncomputable def A3{α:Type}(l:List α)(lo hi:Option Int):List α:=(l.take (hi.elim l.length KN)).drop (lo.elim 0 KN)
def NN(k:Option Int):Prop:=∀i,k=some i->0<=i
theorem oB{α:Type}(l:List α)(a b:Nat):(l.drop (min a l.length)).take (min b l.length-min a l.length)=(l.take b).drop a:=by
 refine AD List.drop_take ?_;rcases Tr a l.length with h|h
 ·refine AD (QK h) ?_;rcases Tr b l.length with h'|h'
  ·exact AD (QK h') rfl
  ·rw[fZ h',Tj (by simp),Tj (by simp;exact AQ 0x1113101320201043000100009 rfl h')]
 ·refine AD (fZ h)<|AD (tQ (BX _))<|AD (tQ h) ?_;simp
theorem AE0(l:List Ap)(lo hi:Option Int)(h1:NN lo)(h2:NN hi):kms_pick l lo hi=A3 l lo hi:=by
 unfold kms_pick A3;have e1:lj lo l.length=min (lo.elim 0 KN) l.length:=by
  cases lo with
  |none=>simp[lj]
  |some x=>obtain this:=h1 x rfl;simp only[lj,fh];exact AG (if_neg (Pr this)) rfl
 have e2:lh hi l.length=min (hi.elim l.length KN) l.length:=by
  cases hi with
  |none=>simp[lh]
  |some x=>obtain this:=h2 x rfl;simp only[lh,fh];exact AG (if_neg (Pr this)) rfl
 refine AD e1<|AD e2 ?_
 exact oB l _ _
theorem AY.take:∀{ms vs}k,AY w D h ms vs->AY w D h (ms.take k) (vs.take k)
 |[],[],k,_=>by simp[BD]
 |_::_,_::_,0,_=>by simp[BD]
 |_::_,_::_,k+1,x=>by simp only[BD,fU]at x|-;exact⟨x.1,AY.take k x.2⟩
 |[],_::_,_,x=>by simp only[BD]at x
 |_::_,[],_,x=>by simp only[BD]at x
theorem AY.drop:∀{ms vs}k,AY w D h ms vs->AY w D h (ms.drop k) (vs.drop k)
 |[],[],k,_=>by simp[BD]
 |_::_,_::_,0,x=>x
 |_::_,_::_,k+1,x=>by simp only[BD,List.drop_succ_cons]at x|-;exact AY.drop k x.2
 |[],_::_,_,x=>by simp only[BD]at x
 |_::_,[],_,x=>by simp only[BD]at x
theorem AY.A3(lo hi)(x:AY w D h ms vs):AY w D h (A3 ms lo hi) (Internal.A3 vs lo hi):=by
 unfold Internal.A3;refine AD x.length<|(x.take _).drop _
theorem AY.reverse:∀{ms vs},AY w D h ms vs->AY w D h ms.reverse vs.reverse
 |[],[],_=>by simp[BD]
 |_::_,_::_,x=>by
  simp only[BD]at x;refine AD QG<|AD QG ?_
  exact AY.append (AY.reverse x.2) (by simp only[BD];exact⟨x.1,trivial⟩)
 |[],_::_,x=>by simp only[BD]at x
 |_::_,[],x=>by simp only[BD]at x
theorem Ac6
 (h:TR X VR (Ab Bv X.env) V m λa V m=>∃l,B_ V a l/\l.length<=100000/\Q (.lst l.reverse) V m)
 (ht:∀o r,VE Bv o r=pure ()):TR X VR (Ab (.Subscript Bv (.Slice none none (some (.UnaryOp .USub (.Constant (.int 1) k p1) p2)) p) pos) X.env) V m Q:=λs D hs=>by
 refine wpAny_Subscript_Slice_step AF8 (TR.go h hs λv AJ mv Ad m₁ Ac h1 h2 h3 h4 h5=>wpAny_Slice (BN (BN (UnaryOp_ (bW (neg_int ?_)))))) ht;(refine AI h5 λl FP=>?_;obtain il:=FP.1;obtain hz:=FP.2.1;obtain q:=FP.2.2;clear FP;try clear h5);(refine A1 (il.at h1.rs h4) λp xs n FQ=>?_;obtain bw:=FQ.1;obtain g:=FQ.2.1;obtain r:=FQ.2.2;clear FQ;subst bw);obtain hlen:=r.length;obtain hL:AJ.heap.IsList p xs:=⟨_,(AO g rfl ⟨n,rfl⟩)⟩;obtain⟨a1,b1⟩:=h1.push (s:=AJ) {cls:=.type "slice",data:=.fields #[.none,.none,.int (-1) (AJ.toks+1)]};refine⟨(hL.push _).typeIs,Aj5 (st:=some (-1)) (hL.push _) (sV ..) .none .none (.int _ _) (by simp) ?_ (by refine AD JC ?_;simp at hlen;exact So hz hlen)⟩;obtain⟨a2,b2⟩:=a1.push (s:={AJ with heap:=AJ.heap.push {cls:=.type "slice",data:=.fields #[.none,.none,.int (-1) (AJ.toks+1)]}}) {cls:=.type "list",data:=.seq (PN xs none none (some (-1)))};refine AW.trans (AJ:=AJ) hs h2 h3<|AW.next (t:=AJ.toks+1+1) h1 a2.rs (b1.trans h1.rs.live b2) ?_ q
 simp only[AZ];refine(BK _ (PN xs none none (some (-1))) 0 (BR rfl ?_ ?_ ?_))
 ·exact MA a1.rs
 ·exact Dx _ rfl
 ·obtain e:(PN xs none none (some (-1))).toList=xs.toList.reverse:=by exact AD (krv_pick ..) rfl
  refine AD e<|b2.F8 a1.rs (λZ q=>q.elim) (b1.F8 h1.rs (λZ q=>q.elim) r.reverse)
theorem wJ(h:0<=i):clipAt n i=min i.toNat n:=by
 obtain⟨k,rfl⟩:=LG h;apply AG (clipAt_nat ..);rfl
inductive IP where
 |i (x:Int)
 |p (x y:Int)
deriving DecidableEq
noncomputable def IP.mv:IP->MV
 | .i x=>.int x
 | .p x y=>.tup [.int x,.int y]
noncomputable def IP.dat:IP->PySem.W.Dat
 | .i x=>.int x
 | .p x y=>.tuple [.int x,.int y]
theorem IP.reads:∀{a:IP}{v:Ap},VR w D h a.mv v->Reads h v (Kl a.dat) []
 | .i x,v,r=>by simp only[IP.mv,AZ]at r;obtain⟨t,rfl⟩:=r;simp only[IP.dat,Kl];exact .int x t
 | .p x y,v,r=>by
  simp only[IP.mv,AZ]at r;(apply A1 r;try clear r;intro a xs n K7;obtain b9:=K7.1;obtain g:=K7.2.2.1;obtain r:=K7.2.2.2;clear K7;subst b9);obtain⟨xl⟩:=xs;(refine Ao (J3 r) λu v zR=>?_;obtain zE:=zR.1;obtain qa:=zR.2.1;obtain qb:=zR.2.2;clear zR;clear r;subst zE);simp only[AZ]at qa qb;obtain⟨t,rfl⟩:=qa;obtain⟨t',rfl⟩:=qb;simp only[IP.dat,Kl,ZY];exact reads_tuple_at g rfl rfl (.cons (.int x t) (.cons (.int y t') .nil))
theorem IP.readsAll:∀{l:List IP}{vs:List Ap},AY w D h (l.map IP.mv) vs->ReadsAll h vs (ZY (l.map IP.dat)) []
 |[],[],_=>by simp only[OB,ZY];exact .nil
 |a::l,v::vs,r=>by
  simp only[By,BD]at r;simp only[By,ZY];exact readsAll_cons_val (IP.reads r.1) (IP.readsAll r.2)
 |[],_::_,r=>by simp only[OB,BD]at r
 |_::_,[],r=>by simp only[By,BD]at r
theorem IP.ok(a:IP):ZX 1 a.dat=true:=by cases a<;>simp[IP.dat,ZX]
theorem IP.aC(l:List IP):ZX 2 (.list (l.map IP.dat))=true:=by
 rw[ZX];rw[Il];intro d hd;(refine AI (DJ.mp hd) λa Pp=>?_;obtain cA:=Pp.2;clear Pp;subst cA);exact a.ok
theorem IP.wu{a b:IP}(h:a.dat=b.dat):a=b:=by
 cases a<;>cases b<;>simp[IP.dat]at h<;>simp[h]
theorem IP.eqv(l r:List IP):uZ (Kl (.list (l.map IP.dat))) (Kl (.list (r.map IP.dat)))=decide (l=r):=by
 have h:=kqd_eqv 2 (.list (l.map IP.dat)) (.list (r.map IP.dat)) 2 (IP.aC l) (IP.aC r);have h2:(ub (l.map IP.dat)=ub (r.map IP.dat))↔l=r:=by
  constructor
  ·intro e;injection e with e;exact(tf λa b=>IP.wu).mp e
  ·intro e;exact AD e rfl
 rw[h2]at h;by_cases e:l=r
 ·refine AD (decide_eq_true e) ?_;exact h.mpr e
 ·refine AD (decide_eq_false e) ?_;cases q:uZ (Kl (.list (l.map IP.dat))) (Kl (.list (r.map IP.dat)))with
  |false=>rfl
  |true=>exact absurd (h.mp q) e
theorem IP.shaped(l:List IP):uj (Kl (.list (l.map IP.dat)))=true:=by
 obtain h:=kqd_lay 2 _ (IP.aC l);unfold uj;refine AD h.1 ?_;simp;exact Ah 0x11240f2000220009 rfl h.2
theorem U6{l:List IP}{v:Ap}(x:B_ V a (l.map IP.mv))(r:RS w h₀ D h V)(hv:VR w D h a v):∃p,Reads h v (Kl (.list (l.map IP.dat))) [p]:=by
 (refine A1 (x.at r hv) λp xs n Pq=>?_;refine DF Pq λcB g r=>?_;clear Pq;(try clear hv;subst cB));refine⟨p,?_⟩;simp only[Kl];exact reads_list_at g rfl rfl (IP.readsAll r)
theorem oO(h:JQ A n):A.units+64<cLine:=by
 have:=h.2.2;have e:cLine=9990\/9500<=cLine:=by first|exact .inr (by decide)|exact .inl rfl
 exact AQ 0x28f00111628f00110171040f200321025f1fcf2027f0f6f21048923f2f8f22028f600309 rfl this e
theorem vT(l r:List IP){Q:MV->Hp->Lc->Prop}(ha:B_ V a (l.map IP.mv))(hb:B_ V b (r.map IP.mv))(q:Q (.bool (decide (l=r))) V m):BO X (DZ .Eq) a b V m Q:=by
 intro s D u v hs hu hv;obtain⟨p,r1⟩:=U6 ha hs.rs hu;obtain⟨p',r2⟩:=U6 hb hs.rs hv;refine eq_dataH r1 r2 (IP.shaped _) (IP.shaped _) (oO hs.ok)<|AD (IP.eqv ..)<|AW.Cm hs Fn q
theorem vf(l r:List IP){Q:MV->Hp->Lc->Prop}(ha:B_ V a (l.map IP.mv))(hb:B_ V b (r.map IP.mv))(q:Q (.bool (!decide (l=r))) V m):BO X (DZ .NotEq) a b V m Q:=by
 intro s D u v hs hu hv;obtain⟨p,r1⟩:=U6 ha hs.rs hu;obtain⟨p',r2⟩:=U6 hb hs.rs hv;refine ne_dataH r1 r2 (IP.shaped _) (IP.shaped _) (oO hs.ok)<|AD (IP.eqv ..)<|AW.Cm hs Fn q
theorem any_isInt(k):∀{vs ns},XE vs ns->vs.any (isInt k)=decide (k∈ns)
 |_,_,.nil=>by simp
 |_,_,.cons n t r=>by
  refine AG XH<|AD (any_isInt k r) ?_
  have:isInt k (.int n t)=decide (n=k):=by
   show(n==k)=_;rfl
  refine AD this ?_;by_cases e:n=k
  ·simp[e]
  ·obtain e':¬k=n:=λz=>e z.symm;simp[e,e']
theorem vX{ns:List Int}{k:Int}(hb:B_ V b (ns.map .int))(q:Q (.bool (decide (k∈ns))) V m):BO X (DZ .In) (.int k) b V m Q:=by
 intro s D u v hs hu hv;(refine A1 (hb.at hs.rs hv) λp xs n K9=>?_;obtain Al6:=K9.1;obtain g:=K9.2.1;obtain r:=K9.2.2;clear K9;subst Al6);simp only[AZ]at hu;obtain⟨t,rfl⟩:=hu;have hi:=intsAre_of r;refine SeqAt.in_listAt (isInt k) ⟨_,(AO g rfl ⟨n,rfl⟩)⟩ (λy hy=>(iY k t hi y (eC.mpr hy)).at _ _)<|AD (A0 W0)<|AD (any_isInt k hi) ?_
 exact AW.Cm hs Fn q
theorem vg{ns:List Int}{k:Int}(hb:B_ V b (ns.map .int))(q:Q (.bool (!decide (k∈ns))) V m):BO X (DZ .NotIn) (.int k) b V m Q:=by
 intro s D u v hs hu hv;(refine A1 (hb.at hs.rs hv) λp xs n qe=>?_;refine DF qe λcD g r=>?_;clear qe;(try clear hv;subst cD));simp only[AZ]at hu;obtain⟨t,rfl⟩:=hu;obtain hi:=intsAre_of r;refine SeqAt.notIn_listAt (isInt k) ⟨_,(AO g rfl ⟨n,rfl⟩)⟩ (λy hy=>(iY k t hi y (eC.mpr hy)).at _ _)<|AD (A0 W0)<|AD (any_isInt k hi) ?_
 exact AW.Cm hs Fn q
noncomputable def Vt:List AV->List MV->Lc->Lc
 |x::xs,v::vs,m=>Vt xs vs (DS m x v)
 |_,_,m=>m
theorem pD:∀(xs:List AV)(CY:List MV)(m:Lc)(s:Bq)(D:AU->Prop)(vs:List Ap)(Q:Hp->Lc->Prop),St X D s.heap V m->AY X.w D s.heap CY vs->(∀x∈xs,BG m x=true)->xs.length=CY.length->Q V (Vt xs CY m)->
 Aq (A7 BJ X.w) X.A (vA (xs.map λn=>bindName X.env n) vs) (AW X RU D s V λZ V m=>Q V m) Dr s
 |[],[],m,s,D,[],Q,hs,_,_,_,q=>BN (AW.Cm (b:=()) hs trivial q)
 |x::xs,mv::CY,m,s,D,v::vs,Q,hs,hv,hx,hl,q=>by
  simp only[BD]at hv;refine Aj0 (bindName_ (Bz (SA (Q:=λZ AE m'=>AE=V/\m'=DS m x mv) hs hv.1 (hx x (.head _)) ⟨rfl,rfl⟩) (λZ AJ p=>?_) λZ Z z=>z));(refine Bc p λZ Ad m₁ Ac JO=>?_;refine Em JO λh1 h2 h3 Z e1 e2=>?_;clear JO;try clear p);replace e1:=e1.symm;subst e1;subst e2;exact Bz (pD xs CY _ AJ Ac vs Q h1 (h2.F8 hs.rs hs.DT hv.2) (λy hy=>by apply AG RY;exact hx y (.tail _ hy)) (by simpa using hl) q) (λZ A8 p=>AW.trans hs h2 h3 p) λZ Z z=>z
 |[],_::_,_,_,_,_,_,_,_,_,hl,_=>by simp at hl
 |_::_,[],_,_,_,_,_,_,_,_,hl,_=>by simp at hl
 |[],[],_,_,_,_::_,_,_,hv,_,_,_=>by simp only[BD]at hv
 |_::_,_::_,_,_,_,[],_,_,hv,_,_,_=>by simp only[BD]at hv
theorem Aa1
 (hw:(∀x∈names,X.env.kindOf x=some .local)->X.env.scope.kind=.function->PW [.Tuple elts k J1] Bv X.env=pure (some names))
 (hn:∀x∈names,BG m x=true/\X.C.contains x=false)
 (h:TR X VR (Ab Bv X.env) V m λv V m=>∃CY,v=.tup CY/\CY.length=names.length/\(∀x∈names,BG m x=true)/\Q .next V (Vt names.reverse CY.reverse m))
 (FH:pJ [.Tuple elts k J1] Bv pos.line X.env=pure false):
 TR X RF (Cj (.Assign [.Tuple elts k J1] Bv pos) X.env) V m Q:=λs D hs=>by
 obtain Kj:=hw (λx hx=>by
  obtain this:=hs.kd x (hn x hx).1;rw[(hn x hx).2]at this;exact this) hs.fr.kind
 refine Assign_Tuple_swapped (names:=names) (TR.go h hs λv AJ mv Ad m₁ Ac h1 h2 h3 h4 h5=>?_) FH Kj;(refine AI h5 λCY Sh=>?_;obtain cF:=Sh.1;obtain hl:=Sh.2.1;obtain hx:=Sh.2.2.1;obtain q:=Sh.2.2.2;clear Sh;try clear h5;subst cF);simp only[AZ]at h4;(refine A1 h4 λa xs n Si=>?_;obtain Al8:=Si.1;obtain na:=Si.2.1;obtain g:=Si.2.2.1;obtain r:=Si.2.2.2;clear Si;try clear h4;subst Al8);obtain IG:names.length=xs.size:=by refine AG (A0 hl)<|AG r.length ?_;simp
 refine AD IG<|unpackItems_tuple h1.ok.1 ⟨_,(AO g rfl ⟨n,rfl⟩)⟩ λh' ex=>?_
 obtain kp:=λa o e=>ex a o (λz=>by rw[z]at e;exact CO e (FA _)) e;obtain st:=Step.grow kp;obtain Cy:=h1.next (h1.rs.grow kp) st;refine Bz (pD names.reverse CY.reverse m₁ {AJ with heap:=h'} Ac xs.toList.reverse (λV m=>Q .next V m) Cy (AY.reverse (st.F8 h1.rs (λZ q=>q.elim) r)) (λx II=>hx x (QF.mp II)) (by simpa using hl.symm) q) (λZ A8 p=>?_) λZ Z x=>x;(refine Bc p λZ AE m' D' K_=>?_;obtain g1:=K_.1;obtain g2:=K_.2.1;obtain g3:=K_.2.2.1;obtain g5:=K_.2.2.2.2;clear K_;try clear p);exact(Ar .next AE m' D' (An g1 ((h2.trans hs.rs.live st.Hn).trans hs.rs.live g2) (h3.trans (CV.trans (b:={AJ with heap:=h'}) ⟨rfl,rfl,rfl⟩ g3)) trivial g5))
end
noncomputable def freeOf(scope:E4):List AV:=(scope.names.filter λx=>x.2==.free).map (·.1)
noncomputable def KY(g:AV->AU)(fs:List AV):List (AV×AU):=fs.map λx=>(x,g x)
noncomputable def Jc(env:FX)(fs:List AV):List (AV×AU):=KY (λx=>(env.cells.lookup x).getD 0) fs.reverse
theorem wO(env)(names:List (AV×JW)):∀acc,(∀x∈names,x.2=.free->(env.cells.lookup x.1).isSome=true)->
 (forIn names acc λx cs=>(if x.2==Gy then do let c<-Xr env x.1;pure (P8 ((x.1,c)::cs))else pure (P8 cs):EG _))=
  pure (KY (λx=>(env.cells.lookup x).getD 0) ((names.filter λx=>x.2==.free).map (·.1)).reverse++acc):=by
 induction names with
 |nil=>exact λZ Z=>rfl
 |cons p r ih=>
  intro acc h;have ih:=λacc=>ih acc λy hy=>h y (.tail _ hy);rw[List.forIn_cons,H2];cases e:p.2==Gy with
  |true=>
   obtain⟨c,hc⟩:=Ms.mp (h p (.head _) (eq_of_beq e));rw[if_pos rfl,if_pos rfl,show Xr env p.1=pure c by unfold Xr;rw[hc]];refine(ih ((p.1,c)::acc)).trans (congrArg pure ?_);rw[By,QG,KY,KY,QE,tM];exact congrArg (λz=>XN _ _++((p.1,z)::acc)) (by rw[hc];rfl)
  |false=>exact ih acc
theorem hV{scope:E4}(h:∀x∈scope.names,x.2=.free->(env.cells.lookup x.1).isSome=true):wQ scope env=pure (Jc env (freeOf scope)):=by
 unfold wQ;obtain this:=wO env scope.names [] h;rw[HS]at this;show(forIn scope.names [] _:EG _)>>=_=_;refine AD (show(forIn scope.names [] (λx cs=>(if x.2==Gy then do let c<-Xr env x.1;pure (P8 ((x.1,c)::cs))else pure (P8 cs):EG _)):EG (List (AV×AU)))=_ from this) ?_;rfl
theorem wM:(KY g fs).lookup x=some c->x∈fs/\c=g x:=by
 induction fs with
 |nil=>exact λh=>nS h
 |cons y r ih=>
  show td x ((y,g y)::KY g r)=_->_;rw[LH];cases e:x==y with
  |true=>exact λh=>⟨eq_of_beq e▸.head _,eq_of_beq e▸(Au h).symm⟩
  |false=>exact λh=>⟨.tail _ (ih h).1,(ih h).2⟩
theorem wL:x∈fs->(KY g fs).lookup x=some (g x):=by
 induction fs with
 |nil=>exact λh=>nomatch h
 |cons y r ih=>
  intro h;show td x ((y,g y)::KY g r)=_;rw[LH];cases e:x==y with
  |true=>exact congrArg (λz=>some (g z)) (eq_of_beq e).symm
  |false=>exact ih ((CH.mp h).resolve_left λz=>by rw[z,beq_self_eq_true]at e;exact tF e)
theorem Xw(hf:∀x∈fs,(env.cells.lookup x).isSome=true)(h:(Jc env fs).lookup x=some c):x∈fs/\env.cells.lookup x=some c:=by
 obtain⟨a,b⟩:=wM h;have a':=QF.mp a;obtain⟨d,hd⟩:=Ms.mp (hf x a');refine⟨a',?_⟩;rw[b,hd];rfl
theorem Xv(h:x∈fs)(e:env.cells.lookup x=some c):(Jc env fs).lookup x=some c:=by
 unfold Jc;refine AG (wL (QF.mpr h))<|AD e ?_;rfl
theorem gO{cells:List (AV×AU)}(h:cells.Pairwise λx y=>x.2≠y.2){x y:AV}{c:AU}(hx:cells.lookup x=some c)(hy:cells.lookup y=some c):x=y:=by
 obtain mx:=mem_of_lookup hx;obtain my:=mem_of_lookup hy;induction h with
 |nil=>cases mx
 |@cons z r a _ ih=>
  rcases CH.mp mx with e1|e1<;>rcases CH.mp my with e2|e2
  ·rw[<-e1]at e2;exact(Prod.ext_iff.mp e2).1.symm
  ·obtain this:=a _ e2;rw[<-e1]at this;exact absurd rfl this
  ·obtain this:=a _ e1;rw[<-e2]at this;exact absurd rfl this
  ·exact ih (by
    rw[LH]at hx;cases q:x==z.1 with
    |true=>rw[q]at hx;(obtain zI:=Au hx;subst zI);obtain this:=a _ e1;exact absurd rfl this
    |false=>rw[q]at hx;exact hx) (by
    rw[LH]at hy;cases q:y==z.1 with
    |true=>rw[q]at hy;(obtain zI:=Au hy;subst zI);obtain this:=a _ e2;exact absurd rfl this
    |false=>rw[q]at hy;exact hy) e1 e2
theorem wN{env:FX}(ap:env.cells.Pairwise λx y=>x.2≠y.2){fs:List AV}(nd:fs.Nodup)(h:∀x∈fs,(env.cells.lookup x).isSome=true):
 (KY (λx=>(env.cells.lookup x).getD 0) fs).Pairwise λx y=>x.2≠y.2:=by
 refine th.mpr (tH (λ{x y} hx hy n=>?_) nd);obtain⟨c,hc⟩:=Ms.mp (h x hx);obtain⟨d,hd⟩:=Ms.mp (h y hy);show(env.cells.lookup x).getD 0≠(env.cells.lookup y).getD 0;rw[hc,hd];exact λe=>n (gO ap hc (hd.trans (congrArg some (show c=d from e).symm)))
theorem mL{α β γ:Type}[BEq α][LawfulBEq α]{f:α×β->α×γ}(hf:∀p,(f p).1=p.1)(x:α)(l:List (α×β)):(l.map f).lookup x=(l.lookup x).map λk=>(f (x,k)).2:=by
 induction l with
 |nil=>rfl
 |cons p r ih=>
  rw[By,show f p=(p.1,(f p).2)from XZ (hf p) rfl,LH,LH];cases e:x==p.1 with
  |true=>exact congrArg (λz=>some (f (z,p.2)).2) (eq_of_beq e).symm
  |false=>exact ih
theorem oJ[Decidable b]{n:AV}{k k':JW}:(if b then(n,k')else(n,k)).1=n:=by split<;>rfl
theorem AR5{env:FX}{k:JW}(hk:k≠.free){names:List (AV×JW)}{x:AV}(h:names.lookup x=some k):
 (names.map λ(n,k)=>if(k==Gy&&env.scope.kind==.function&&env.kindOf n==some .cell)then(n,Mp)else(n,k)).lookup x=some k:=by
 rw[mL λZ=>oJ,h];apply congrArg some;show(if(k==Gy&&env.scope.kind==.function&&env.kindOf x==some .cell)=true then(x,Mp)else(x,k)).2=k;rw[beq_false_of_ne hk];rfl
theorem AR4{env:FX}{names:List (AV×JW)}{x:AV}(h:names.lookup x=some .free):
 (names.map λ(n,k)=>if(k==Gy&&env.scope.kind==.function&&env.kindOf n==some .cell)then(n,Mp)else(n,k)).lookup x=some .cell\/
 (names.map λ(n,k)=>if(k==Gy&&env.scope.kind==.function&&env.kindOf n==some .cell)then(n,Mp)else(n,k)).lookup x=some .free:=by
 rw[mL λZ=>oJ,h];show some (if(Gy==Gy&&env.scope.kind==.function&&env.kindOf x==some .cell)=true then(x,Mp)else(x,Gy)).2=_\/some (if(Gy==Gy&&env.scope.kind==.function&&env.kindOf x==some .cell)=true then(x,Mp)else(x,Gy)).2=_;by_cases c:(Gy==Gy&&env.scope.kind==.function&&env.kindOf x==some .cell)=true
 ·rw[if_pos c];exact .inl rfl
 ·rw[if_neg c];exact .inr rfl
noncomputable def tests(ifs:List Expr)(env:FX):EG Bool:=forIn ifs true λc r=>if r=true then do let ok<-Fv c env (Ab c env);pure (P8 ok)else pure (P8 r)
def fk(X:Cx)(acc:AU):AU->Prop:=λa=>Own X.env a\/a=acc
def uW(X:Cx)(D:AU->Prop)(s:Bq)(V:Hp)(acc:AU)(Q:MO->Hp->Lc->Prop)(s':Bq):Prop:=
 ∃AE m' D' CS,St X D' s'.heap AE m'/\Step (fk X acc) D s.heap V D' s'.heap AE/\CV s s'/\OR X.w D' s'.heap acc CS/\DQ CS=none/\Q CS AE m'
def EM(X:Cx)(emit:Ap->EG Unit)(mo:MO)(V:Hp)(m:Lc)(Q:MO->Hp->Lc->Prop):Prop:=
 ∀s D acc,St X D s.heap V m->Ey X D s.heap V acc->OR X.w D s.heap acc mo->Aq (A7 BJ X.w) X.A (emit (.ref acc)) (λZ s'=>uW X D s V acc Q s') Dr s
section
variable{X:Cx}{V:Hp}{m:Lc}
theorem VU(r:RS X.w X.h₀ D h V)(od:∀a,Own X.env a->D a)(a:Ey X D h V acc)(hi:DQ mo=none)(s:Step (Own X.env) D h V D' h' AE)(x:OR X.w D h acc mo):OR X.w D' h' acc mo:=
 OR.mono (s.hk r od) s.hd (λo e=>s.keep _ o e a.nf a.no) (λc d ks vs z=>by rw[z]at hi;exact sN hi) x
theorem bM(q:Q true V m):TR X RB (tests [] X.env) V m Q:=λs D hs=>BN (AW.Cm hs rfl q)
theorem Af5(h:TR X RB (Fv c X.env (Ab c X.env)) V m Q):TR X RB (tests [c] X.env) V m Q:=λs D hs=>Ak6 (h s D hs)
theorem iV(h:TR X VR (Ab Av X.env) V m λv V m=>l.length<=100000/\Q (.list (l++[v])) V m):
 EM X (λacc=>do let _<-call (.builtin "list.append") [acc,<-Ab Av X.env]) (.list l) V m Q:=λs D acc hs ha ho=>by
 refine Ae (TR.go h hs λv AJ mv Ad m₁ Ac h1 h2 h3 h4 h5=>?_);have He:=ha.step hs.rs.live h2;(refine Ao (VU hs.rs hs.DT ha rfl h2 ho) λxs n A9=>?_;refine BQ A9 λg r=>?_);obtain hlen:l.length=xs.size:=by apply AG r.length;simp
 refine Ae (Aj7 ⟨n,g⟩ (λh' hp sb=>BN ?_) (by refine AD JC ?_;exact So h5.1 hlen));obtain⟨n',g'⟩:=hp;obtain⟨r1,s1⟩:=h1.rs.pZ He.inD He.nf (λc o ne e=>(sb.2 c ne).trans e) ⟨_,g'⟩;obtain s2:Step (fk X acc) Ac AJ.heap Ad Ac h' Ad:=s1.JA λa z=>.inr z;obtain st:St X Ac h' Ad m₁:=⟨r1,h1.fr.a9 h1.rs.live (λZ q=>Ob h1.rs q) s1 (λa o z=>He.no (z▸o)) (λa z=>z▸He.inD),h1.bs,h1.ok,h1.gl,h1.kd⟩;have mono:∀mv v,VR X.w Ac AJ.heap mv v->VR X.w Ac h' mv v:=λmv v y=>s1.vr h1.rs (λa (z:a=acc)=>z▸He.inD) y;refine(Ar Ad m₁ Ac (.list (l++[mv])) (Cc st ((h2.JA λa z=>.inl z).trans hs.rs.live s2) (h3.trans ⟨rfl,rfl,rfl⟩) (Aj (xs.push v) n' ⟨g',?_⟩) rfl h5.2));refine AD rp<|AY.append (AY.of_map mono r) (by simp only[BD];exact⟨mono _ _ h4,trivial⟩)
noncomputable def O9(e:Expr)(depth:Nat)(A4:Expr)(ifs:List Expr)(p:G4)(it acc:Ap)(env:FX)(emit:Ap->EG Unit):EG Fin:=do
 JE p;match<-PJ it with
 |none=>pure (.done .next)
 |some v=>
  Zk A4 it v;G6 A4 env v;let mut ok:=true;for c in ifs do
   if ok then ok<-Fv c env (Ab c env)
  if ok then emit acc
  again (.compLoop e depth it acc env)
def T1(X:Cx)(acc I0:AU):AU->Prop:=λa=>Own X.env a\/a=acc\/a=I0
def CompI(X:Cx)(acc I0:AU)(items:List MV)(S:Nat->(AU->Prop)->BU->Prop)(I:List MV->MO->Hp->Lc->Prop)(B:AU->Prop)(hB:BU)(FU:Hp)(s:Bq)(n:Nat)(s':Bq):Prop:=
 ∃i AE m' D' CS,n+i=items.length/\St X D' s'.heap AE m'/\Step (T1 X acc I0) B hB FU D' s'.heap AE/\CV s s'/\S i D' s'.heap/\Ey X D' s'.heap AE I0/\Ey X D' s'.heap AE acc/\OR X.w D' s'.heap acc CS/\DQ CS=none/\I (items.drop i) CS AE m'
theorem AO9(r:RS X.w X.h₀ D h V)(g:DQ mo=none)(ne:I0≠acc)(aI:D I0)(st:Step (λa=>a=I0) D h V D h' V)(kp:∀c o,c≠I0->h.get? c=some o->h'.get? c=some o)(x:OR X.w D h acc mo):OR X.w D h' acc mo:=
 OR.mono (st.hk r λa (z:a=I0)=>z▸aI) st.hd (λo e=>kp _ _ (λz=>ne z.symm) e) (λc d ks vs z=>by rw[z]at g;exact sN g) x
theorem wR{K E}
 (it:It X.w X.h₀ I0 items P S) (hi:i<items.length) (hn:n+i=items.length) (Bl:∀a,B a->∃o,hB.get? a=some o) (ne:I0≠acc) (hs:St X Bk A8.heap V m) (st:Step (T1 X acc I0) B hB FU Bk A8.heap V) (sr:CV s A8) (S1:S (i+1) Bk A8.heap) (a0:Ey X Bk A8.heap V I0) (a1:Ey X Bk A8.heap V acc) (ho:OR X.w Bk A8.heap acc mo) (Hi:DQ mo=none) (hv:VR X.w Bk A8.heap mv v)
 (turn:TA X A4 mv V m λV m=>TR X RB (tests ifs X.env) V m λok V m=>if ok=true then EM X emit mo V m (λCS V m=>I (items.drop (i+1)) CS V m)else I (items.drop (i+1)) mo V m)
 (kn:∀s',CompI X acc I0 items S I B hB FU s (n-1) s'->K (.again cl) s'):
 Aq (A7 BJ X.w) X.A (do G6 A4 X.env v;let ok<-tests ifs X.env;if ok=true then do emit (.ref acc);again cl else again cl) K E A8:=by
 obtain hz:n-1+(i+1)=items.length:=by exact qr hn hi
 refine Ae (Bz (turn A8 Bk v hs hv) (λZ Dp p=>?_) λZ Z x=>x.elim);refine Bc p λZ Gd Hk Fq z=>Cu z λk1 k2 k3 Z k5=>Ae (TR.go (t:=tests ifs X.env) k5 k1 λok GX ok' Ig Js FW l1 l2 l3 l4 l5=>?_);cases(show ok=ok' from l4);obtain sb:=k2.trans hs.rs.live l2;obtain PT:=sr.trans (k3.trans l3);obtain km:=VU hs.rs hs.DT a1 Hi sb ho;obtain T':=a1.step hs.rs.live sb;obtain T_:=a0.step hs.rs.live sb;obtain S4:S (i+1) FW GX.heap:=it.Va _ Bk A8.heap FW GX.heap S1 a0.inD (sb.hk hs.rs hs.DT) sb.hd (λo e=>sb.keep I0 o e a0.nf a0.no);obtain sa:Step (T1 X acc I0) B hB FU FW GX.heap Ig:=st.trans Bl (sb.JA λa z=>.inl z);obtain no:I0≠acc/\¬Own X.env I0:=⟨ne,a0.no⟩;cases ok with
 |false=>exact BN (kn _ (D_ (i+1) Ig Js FW mo (OI hz l1 sa PT S4 T_ T' km Hi l5)))
 |true=>
  refine Ae (Bz (l5 GX FW acc l1 T' km) (λZ bE p=>?_) λZ Z x=>x.elim);refine Bc p λd9 VK TF AI3 z=>Em z λp1 p2 p3 p4 p5 p6=>BN (kn _ (D_ (i+1) d9 VK TF AI3 (OI hz p1 (sa.trans Bl (p2.JA λa z=>z.elim .inl λz=>.inr (.inl z))) (PT.trans p3) (it.Va _ FW GX.heap TF bE.heap S4 T_.inD (p2.hk l1.rs (λa z=>z.elim (l1.DT a) λz=>z▸T'.inD)) p2.hd (λo e=>p2.keep I0 o e T_.nf (λz=>z.elim no.2 no.1))) (T_.step l1.rs.live p2) (T'.step l1.rs.live p2) p4 p5 p6)))
def sE(X:Cx)(acc I0:AU)(B:AU->Prop)(hB:BU)(FU:Hp)(s:Bq)(Q:MO->Hp->Lc->Prop)(r:Result)(s':Bq):Prop:=
 ∃AE m' D' CS,r=.ok .next/\St X D' s'.heap AE m'/\Step (T1 X acc I0) B hB FU D' s'.heap AE/\CV s s'/\OR X.w D' s'.heap acc CS/\DQ CS=none/\Ey X D' s'.heap AE acc/\Q CS AE m'
theorem iC{e:Expr}{depth:Nat}{A4:Expr}{ifs:List Expr}{p:G4}{emit:Ap->EG Unit}{I0 acc:AU}{items:List MV}{P:Hp->Prop}{S:Nat->(AU->Prop)->BU->Prop}{mo:MO}{Q:MO->Hp->Lc->Prop}
 (heq:M5 e depth (.ref I0) (.ref acc) X.env=O9 e depth A4 ifs p (.ref I0) (.ref acc) X.env emit)
 (hq:(sD e depth (.ref I0) (.ref acc) X.env).quiet=true)
 (hd:∀Q E s,Aq (A7 BJ X.w) X.A ((M5 e depth (.ref I0) (.ref acc) X.env).onRaise (λx=>do VO x X.env;pQ x)) Q E s->Aq (A7 BJ X.w) (X.A.under (.compLoop e depth (.ref I0) (.ref acc) X.env)) ((A7 BJ X.w).den (.compLoop e depth (.ref I0) (.ref acc) X.env)) Q E s)
 (I:List MV->MO->Hp->Lc->Prop) {D:AU->Prop} {s:Bq} {B:AU->Prop} {hB:BU} {FU:Hp} (Bl:∀a,B a->∃o,hB.get? a=some o) (sB:Step (λa=>Own X.env a\/a=acc\/a=I0) B hB FU D s.heap V) (nB:hB.get? I0=none) (hs:St X D s.heap V m) (it:It X.w X.h₀ I0 items P S) (S0:S 0 D s.heap)
 (ia:Ey X D s.heap V I0) (ha:Ey X D s.heap V acc) (ne:I0≠acc) (ho:OR X.w D s.heap acc mo) (Hi:DQ mo=none)
 (hP:∀mv AN mo V m,I (mv::AN) mo V m->P V) (F2:∀mo V m,I [] mo V m->P V) (hI:I items mo V m)
 (turn:∀mv AN mo V m,I (mv::AN) mo V m->TA X A4 mv V m λV m=>TR X RB (tests ifs X.env) V m λok V m=>if ok=true then EM X emit mo V m (λCS V m=>I AN CS V m)else I AN mo V m)
 (fin:∀mo V m,I [] mo V m->Q mo V m):
 GI (A7 BJ X.w) X.A (.compLoop e depth (.ref I0) (.ref acc) X.env) (λr s'=>∃AE m' D' CS,r=.ok .next/\St X D' s'.heap AE m'/\Step (λa=>Own X.env a\/a=acc\/a=I0) B hB FU D' s'.heap AE/\CV s s'/\OR X.w D' s'.heap acc CS/\DQ CS=none/\Ey X D' s'.heap AE acc/\Q CS AE m') s:=by
 refine wY (R:=sE X acc I0 B hB FU s Q) hq (CompI X acc I0 items S I B hB FU s) (λn A8 p=>?_) items.length (D_ 0 V m D mo (OI (uA _) hs sB CV.refl S0 ia ha ho Hi hI))
 refine GK p λi Dq m₂ Bk AI2 z=>gN z λhn g1 g2 g3 g4 g5 g6 g7 g8 g9=>?_
 refine hd _ _ _ (qS λK hK=>wpAny_noted ?_)
 refine AD heq<|Ae (J_ (Ae ?_))
 refine(Mr i items.length).elim (λhi=>?_) λhi=>?_
 ·obtain g9:=fG hi▸g9
  obtain hl:n-1<n:=by exact AQ 0x10110510000500120042201029201000349 rfl hn hi
  exact it.turn g1 (hP _ _ _ _ _ g9) g4 g5 (Ee hi) λv h' tk hs hv S1 ac st kp lt=>Ae (lt _ _ _ (wR (A8:={A8 with heap:=h',toks:=tk}) it hi hn Bl ne hs (g2.trans Bl (st.JA λa z=>.inr (.inr z))) (g3.trans ⟨rfl,rfl,rfl⟩) S1 ac ⟨g6.inD,g6.nf,g6.no⟩ (AO9 g1.rs g8 ne g5.inD st kp g7) g8 hv (turn _ _ _ _ _ g9)
   λs f=>hK _ _ ⟨rfl,⟨_,hl,f⟩⟩))
 ·obtain IB:i=items.length:=by exact AQ 0x1100410010017100041000269100020349 rfl hn (Ft.mpr hi)
  obtain g9:=tP hi▸g9
  refine it.done Bk A8 Dq X.A g1.ok.1 g1.rs (F2 _ _ _ g9) (IB▸g4) _ _ λh' tk kp=>BN (hK _ _ ?_)
  exact(Ar Dq m₂ _ AI2 (Ip rfl (g1.X4 g5 kp).1 (g2.Qj Bl nB kp) (g3.trans ⟨rfl,rfl,rfl⟩) (OR.mono (λb o n e=>kp b o (λz=>n (z▸g5.inD)) e) (λZ Z Z n d=>n d.1) (λo e=>kp _ _ (λz=>ne z.symm) e) (λc d ks vs z=>by rw[z]at g8;exact sN g8) g7) g8 ⟨⟨g6.inD,λz=>ne z.symm⟩,g6.nf,g6.no⟩ (fin _ _ _ g9)))
end
structure CF(scope:E4)(ls fs G:List AV):Prop where
 kind:scope.kind=.function
 names:(scope.names.all λx=>x.2 != .local||scope.names.lookup x.1==some .local)=true
 nG:(scope.names.all λx=>x.2 != .cell)=true
 frees:freeOf scope=fs
 nod:fs.Nodup
 loc:(ls.all λx=>scope.names.lookup x==some .local)=true
 jD:(fs.all λx=>scope.names.lookup x==some .free)=true
 y0:(G.all λx=>scope.names.lookup x==some .globalImplicit)=true
noncomputable abbrev Dm(X:Cx)(scope:E4)(C:AU)(G fs:List AV):Cx:=⟨X.w,X.h₀,X.n,X.A,compEnvC scope (Jc X.env fs) C X.env,G,fs⟩
noncomputable def C9(ls:List AV)(f:AV->Option MV)(fs:List AV)(m:Lc):Lc:=(ls.map λx=>(x,f x))++fs.map λx=>(x,CT m x)
theorem RZ{f:AV->Option MV}{x:AV}:∀{ls:List AV},BG (ls.map λx=>(x,f x)) x=true->x∈ls
 |[],h=>by exact fT h
 |y::r,h=>by
  simp only[By,I8]at h;split at h
  ·rename_i e;subst e;exact .head _
  ·exact .tail _ (RZ h)
theorem Ra{f:AV->Option MV}{x:AV}:∀{ls:List AV},x∈ls->BG (ls.map λx=>(x,f x)) x=true
 |y::r,h=>by
  simp only[By,I8];split
  ·rfl
  ·rename_i e;rcases CH.mp h with z|z
   ·exact absurd z.symm e
   ·exact Ra z
theorem Zq:∀{a b},BG (a++b) x=(BG a x||BG b x)
 |[],b=>by simp[I8]
 |(y,o)::r,b=>by
  simp only[GD,I8];split
  ·rfl
  ·exact Zq
theorem Zl:∀{a b},BG a x=false->CT (a++b) x=CT b x
 |[],b,_=>rfl
 |(y,o)::r,b,h=>by
  simp only[I8]at h;simp only[GD,Km];split at h
  ·exact tF h
  ·rename_i e;simp only[if_neg e];exact Zl h
theorem VF:∀{a b},BG a x=true->CT (a++b) x=CT a x
 |[],b,h=>by exact fT h
 |(y,o)::r,b,h=>by
  simp only[I8]at h;simp only[GD,Km];split at h
  ·rename_i e;simp only[if_pos e]
  ·rename_i e;simp only[if_neg e];exact VF h
theorem Zn{g:AV->Option MV}{x:AV}:∀{fs:List AV},x∈fs->CT (fs.map λx=>(x,g x)) x=g x
 |y::r,h=>by
  simp only[By,Km];split
  ·rename_i e;exact AD e rfl
  ·rename_i e;rcases CH.mp h with z|z
   ·exact absurd z.symm e
   ·exact Zn z
theorem Zo:∀{fs:List AV},CT (fs.map λx=>(x,none)) x=none
 |[]=>rfl
 |y::r=>by simp only[By,Km];split<;>first|rfl|exact Zo
section
variable{X:Cx}{scope:E4}{ls fs G:List AV}{C:AU}{V:Hp}{m:Lc}
theorem CF.find{n:List AV}{k:JW}(h:(n.all λx=>scope.names.lookup x==some k)=true):∀x∈n,scope.names.lookup x=some k:=λx hx=>beq_iff_eq.mp (Il.mp h x hx)
theorem CF.lf(F:CF scope ls fs G){x:AV}(h1:x∈ls)(h2:x∈fs):False:=by
 have a:=CF.find F.loc x h1
 rw[CF.find F.jD x h2]at a;cases a
theorem CF.cells(F:CF scope ls fs G)(hs:St X D h V m)(hf:∀x∈fs,BG m x=true/\X.C.contains x=true):∀x∈fs,(X.env.cells.lookup x).isSome=true:=λx hx=>by
 obtain k:=hs.kd x (hf x hx).1;rw[if_pos (hf x hx).2]at k;rcases hs.fr.kn x (hf x hx).1 with q|⟨_,c,e⟩
 ·rw[q]at k;rcases k with k|k<;>cases k
 ·rw[e];rfl
theorem CF.ZR(F:CF scope ls fs G){x:AV}(h:x∈ls):(Dm X scope C G fs).env.kindOf x=some .local:=mM (CF.find F.loc x h)
theorem CF.VC(F:CF scope ls fs G){x:AV}(h:x∈fs):(Dm X scope C G fs).env.kindOf x=some .cell\/(Dm X scope C G fs).env.kindOf x=some .free:=AR4 (CF.find F.jD x h)
theorem VG{f:AV->Option MV}{x:AV}(h:BG (C9 ls f fs m) x=true):x∈ls\/x∈fs:=by
 unfold C9 at h;rw[Zq,Bool.or_eq_true]at h;rcases h with h|h
 ·exact .inl (RZ h)
 ·exact .inr (RZ h)
theorem mD(F:CF scope ls fs G){f:AV->Option MV}{x:AV}(h:x∈fs):CT (C9 ls f fs m) x=CT m x:=by
 unfold C9;(rw[Zl];exact Zn h);cases e:BG (ls.map λx=>(x,f x)) x with
 |false=>rfl
 |true=>exact(F.lf (RZ e) h).elim
theorem wb(F:CF scope ls fs G){D D':AU->Prop}{h':BU}(hs:St X D' h' V m)(hf:∀x∈fs,BG m x=true/\X.C.contains x=true)(hC:D' C)(nC:¬foot V C)(hN:h'.Ns C λZ=>none):
 St (Dm X scope C G fs) D' h' V (C9 ls (λZ=>none) fs m):=by
 obtain cs:=F.cells hs hf;obtain cin:∀x c,(Jc X.env fs).lookup x=some c->x∈fs/\X.env.cells.lookup x=some c:=λx c e=>Xw cs e;refine⟨hs.rs,⟨F.kind,hs.fr.glob,hs.fr.G7,λa o=>?_,⟨_,⟨hN,(λx mv e k=>?_)⟩⟩,λx mv e=>?_,λx e=>?_,λx c e=>?_,?_⟩,hs.bs,hs.ok,λx hx=>?_,λx hx=>?_⟩
 ·rcases o with rfl|⟨x,e⟩
  ·exact⟨hC,nC⟩
  ·exact hs.fr.own a (.inr ⟨x,(cin x a e).2⟩)
 ·rcases VG (NQ e)with q|q
  ·exfalso;unfold C9 at e;have:BG (ls.map λx=>(x,(none:Option MV))) x=true:=by
    cases z:BG (ls.map λx=>(x,(none:Option MV))) x with
    |true=>rfl
    |false=>
     rw[Zl z]at e;exact absurd (RZ (NQ e)) (λy=>F.lf q y)
   rw[VF this,Zo]at e
   exact nS e
  ·obtain this:=F.VC (X:=X) (C:=C) q
   rw[k]at this;rcases this with z|z<;>cases z
 ·rcases VG (NQ e)with q|q
  ·exact .inl (F.ZR q)
  ·rw[mD F q]at e
   obtain kk:=hs.kd x (hf x q).1
   rw[if_pos (hf x q).2]at kk
   rcases hs.fr.cell x mv e with z|⟨c,v,e1,e2,e3⟩
   ·rw[z]at kk;rcases kk with y|y<;>cases y
   ·exact .inr (Aj c v (AO (Xv q e1) e2 e3))
 ·rcases VG e with q|q
  ·exact .inl (F.ZR q)
  ·obtain⟨c,hc⟩:=Ms.mp (cs x q)
   exact .inr ⟨(F.VC q),⟨c,(Xv q hc)⟩⟩
 ·exact hs.fr.cells x c (cin x c e).2
 ·exact wN hs.fr.apart (tj.mpr (F.nod.imp λh=>h.symm)) λx hx=>cs x (QF.mp hx)
 ·obtain this:x∈G:=by simpa using hx
  exact AR5 (by decide) (CF.find F.y0 x this)
 ·rcases VG hx with q|q
  ·have:(Dm X scope C G fs).C.contains x=false:=by
    cases z:(Dm X scope C G fs).C.contains x with
    |false=>rfl
    |true=>exact(F.lf q (by simpa using z)).elim
   refine AD this ?_;exact F.ZR q
  ·obtain this:(Dm X scope C G fs).C.contains x=true:=by simpa using q
   refine AD (if_pos this) ?_;exact F.VC q
theorem wc(F:CF scope ls fs G)(hs:St X B hB FU m)(hf:∀x∈fs,BG m x=true/\X.C.contains x=true)(nC:hB.get? C=none)(na:hB.get? acc=none)(nI:hB.get? I0=none)
 (hX:St (Dm X scope C G fs) D' h' AE m') (st:Step (λa=>Own (Dm X scope C G fs).env a\/a=acc\/a=I0) B hB FU D' h' AE) (vu:∀x∈fs,CT m' x=CT m x):
 St X D' h' AE m/\Step (Own X.env) B hB FU D' h' AE:=by
 obtain cs:=F.cells hs hf;have cin:∀x c,(Jc X.env fs).lookup x=some c->x∈fs/\X.env.cells.lookup x=some c:=λx c e=>Xw cs e;have own:∀a o,hB.get? a=some o->(Own (Dm X scope C G fs).env a\/a=acc\/a=I0)->∃x∈fs,X.env.cells.lookup x=some a:=λa o e z=>by
  rcases z with(z|⟨x,z⟩)|z|z
  ·have:a=C:=z;rw[this]at e;exact(CO e nC).elim
  ·exact⟨x,⟨((cin x a z).1),((cin x a z).2)⟩⟩
  ·rw[z]at e;exact(CO e na).elim
  ·rw[z]at e;exact(CO e nI).elim
 have step:Step (Own X.env) B hB FU D' h' AE:=⟨st.GJ,st.H9,st.F0,λa o e f n=>st.keep a o e f λz=>by
  (refine AI (own a o e z) λx AR=>?_;refine BQ AR λZ q=>?_;clear AR);exact n (.inr ⟨x,q⟩),st.live⟩
 obtain nf:∀a,Own X.env a->¬foot AE a:=λa o f=>by
  rcases st.F0 a f with q|q
  ·exact(hs.fr.own a o).2 q
  ·obtain⟨z,e⟩:=hs.rs.live a (hs.fr.own a o).1;exact CO e q
 have cellK:∀x c v,X.env.cells.lookup x=some c->hB.IsCell c v->(∃y∈fs,X.env.cells.lookup y=some c)\/h'.IsCell c v:=λx c v e ⟨o,e1,e2⟩=>by
  by_cases z:Own (Dm X scope C G fs).env c\/c=acc\/c=I0
  ·exact .inl (own c o e1 z)
  ·exact .inr ⟨o,⟨(st.keep c o e1 (hs.fr.own c (.inr ⟨x,e⟩)).2 z),e2⟩⟩
 have vm:∀mv v,VR X.w B hB mv v->VR X.w D' h' mv v:=λmv v r=>step.vr hs.rs hs.DT r;have f:=hs.fr;(refine AI f.ns λmr Af=>?_;obtain zN3:=Af.1;obtain hm:=Af.2;clear Af;obtain⟨oL,es,ep,e1,e2⟩:=zN3);obtain AD6:=st.keep _ _ e1 (f.own _ (.inl rfl)).2 λz=>by
  (refine AI (own _ _ e1 z) λx A9=>?_;refine BQ A9 λZ q=>?_;clear A9);(refine Ao (f.cells x _ q) λv o Ai=>?_;refine BQ Ai λb1 b2=>?_;clear Ai);rw[e1]at b1;cases b1;rw[e2.1]at b2;cases b2
 refine⟨⟨hX.rs,⟨f.kind,f.glob,f.G7,λa o=>⟨st.GJ a (f.own a o).1 (f.own a o).2,nf a o⟩,⟨mr,⟨(BK oL es ep ⟨AD6,e2⟩),(λx mv e k=>?_)⟩⟩,λx mv e=>?_,f.kn,λx c hc=>?_,f.apart⟩,hs.bs,hs.ok,hs.gl,hs.kd⟩,step⟩
 ·(refine AI (hm x mv e k) λv A5=>?_;refine BQ A5 λa b=>?_;clear A5);exact⟨v,⟨a,(vm _ _ b)⟩⟩
 ·rcases f.cell x mv e with q|⟨c,v,a,b,r⟩
  ·exact .inl q
  ·rcases cellK x c _ a b with⟨y,hy,q⟩|q
   ·have:=gO f.apart a q;(try clear q;subst this);rw[<-vu x hy]at e;rcases hX.fr.cell x mv e with z|⟨c',v',z1,z2,z3⟩
    ·have:=F.VC (X:=X) (C:=C) hy;rw[z]at this;rcases this with y|y<;>cases y
    ·have qV:=(cin x c' z1).2;rw[a]at qV;(obtain zI:=Au qV;subst zI);exact .inr (Aj c v' (AO a z2 z3))
   ·exact .inr (Aj c v (AO a q (vm _ _ r)))
 ·obtain⟨v,o⟩:=f.cells x c hc;rcases cellK x c v hc o with⟨y,hy,q⟩|q
  ·exact hX.fr.cells y c (Xv hy q)
  ·exact⟨v,q⟩
theorem Step.none(t:Step own D h V D' h' AE)(n:h'.get? C=none):h.get? C=none:=
 Option.eq_none_iff_forall_ne_some.mpr λo e=>(t.live _ _ e).elim λo' q=>CO q n
theorem St.adopt(s:St X D h V m)(t:Step own B hB FU D h V)(a:Ey X D h V acc)(na:hB.get? acc=none)(o:OR X.w D h acc mo)(hi:DQ mo=none):
 St X D h (V.set acc mo) m/\Step own B hB FU D h (V.set acc mo)/\∀b,b≠acc->¬foot V b->¬foot (V.set acc mo) b:=by
 obtain fs:∀b,foot (V.set acc mo) b->foot V b\/b=acc:=λb f=>(Qr f).elim .inl λf=>f.elim .inr λf=>nS (hi.symm.trans f);obtain nf:∀b,b≠acc->¬foot V b->¬foot (V.set acc mo) b:=λb n n' f=>(fs b f).elim n' n;obtain f:=s.fr;exact⟨⟨s.rs.adopt a.inD a.nf o hi,⟨f.kind,f.glob,f.G7,λb o=>⟨(f.own b o).1,nf b (λz=>a.no (z▸o)) (f.own b o).2⟩,f.ns,f.cell,f.kn,f.cells,f.apart⟩,s.bs,s.ok,s.gl,s.kd⟩,
  ⟨t.GJ,t.H9,λb f=>(fs b f).elim (t.F0 b) λz=>.inr (z▸na),t.keep,t.live⟩,nf⟩
def Good(ls fs:List AV)(m m':Lc):Prop:=m'=C9 ls (λx=>CT m' x) fs m
theorem h_(F:CF scope ls fs G){e:Expr}{g:eW}{gs:List eW}{A4 iter:Expr}{ifs:List Expr}{p pos:G4}{emit:FX->Ap->EG Unit}{mn:EG Ap}{ob:GG}{PD:MO}{use:Option (Ap->EG Unit)}
 (EX:clausesOf e=g::gs) (Hg:∀x,Jf g.iter X.env x=pure x)
 (Uq:∀Q E s,Q (.ref s.heap.objs.size) {s with heap:=s.heap.push ob}->Aq (A7 BJ X.w) X.A mn Q E s) (AB2:ob.isFreed=false)
 (hob:∀D h a,h.get? a=some ob->a≠Ku->OR X.w D h a PD) (Hi:DQ PD=none)
 (AC1:∀BZ I0 acc R s,(∀(Q:Ap->Bq->Prop)E,Q (.ref I0) s->Aq (A7 BJ X.w) X.A (R0 (.ref I0)) Q E s)->GI (A7 BJ X.w) X.A (.compLoop e 0 (.ref I0) acc BZ) R s->GI (A7 BJ X.w) X.A (.compStart e 0 (.ref I0) acc BZ) R s)
 (heq:∀BZ I0 acc,M5 e 0 (.ref I0) (.ref acc) BZ=O9 e 0 A4 ifs p (.ref I0) (.ref acc) BZ (emit BZ))
 (hq:∀BZ I0 acc,(sD e 0 (.ref I0) (.ref acc) BZ).quiet=true)
 (hd:∀BZ I0 acc Q E s,Aq (A7 BJ X.w) X.A ((M5 e 0 (.ref I0) (.ref acc) BZ).onRaise (λx=>do VO x BZ;pQ x)) Q E s->Aq (A7 BJ X.w) (X.A.under (.compLoop e 0 (.ref I0) (.ref acc) BZ)) ((A7 BJ X.w).den (.compLoop e 0 (.ref I0) (.ref acc) BZ)) Q E s)
 {K:MO->Hp->Lc->Prop} {Q:Ap->Bq->Prop} {E:Ap->Bq->Prop} {s:Bq} {D:AU->Prop} (hs:St X D s.heap V m) (Ke:∀x∈fs,BG m x=true/\X.C.contains x=true)
 (h:TR X VR (Ab iter X.env) V m λv V m=>(∀x∈fs,BG m x=true/\X.C.contains x=true)/\∃items P,FF v V items P/\∃I:List MV->MO->Hp->Prop,
  (∀mv AN mo V,I (mv::AN) mo V->P V)/\(∀mo V,I [] mo V->P V)/\I items PD V/\
  (∀C mv AN mo V f,I (mv::AN) mo V->TA (Dm X scope C G fs) A4 mv V (C9 ls f fs m) λV m'=>TR (Dm X scope C G fs) RB (tests ifs (Dm X scope C G fs).env) V m' λok V m'=>
   if ok=true then EM (Dm X scope C G fs) (emit (Dm X scope C G fs).env) mo V m' (λCS V L3=>Good ls fs m L3/\I AN CS V)else Good ls fs m m'/\I AN mo V)/\
  (∀mo V,I [] mo V->K mo V m))
 (k:∀acc AJ Ad m₁ Ac mo,St X Ac AJ.heap (Ad.set acc mo) m₁->Step (Own X.env) D s.heap V Ac AJ.heap (Ad.set acc mo)->CV s AJ->¬foot Ad acc->K mo Ad m₁->
  ∀C mm,AJ.heap.Ns C mm->Ac C->¬foot (Ad.set acc mo) C->¬Own X.env C->s.heap.get? C=none->X0 (A7 BJ X.w) X.A E use Q (.ref acc) C (.ok .next) AJ):
 Aq (A7 BJ X.w) X.A (UO e scope X.env pos mn false (Ab iter X.env) use) Q E s:=by
 have Y3:∀x∈scope.names,x.2=.local->scope.names.lookup x.1=some .local:=λx hx hl=>by
  have:=Il.mp F.names x hx;rw[hl]at this;simpa using this
 have Y2:∀x∈scope.names,x.2≠.cell:=λx hx hl=>by
  have:=Il.mp F.nG x hx;rw[hl]at this;simp at this
 refine Aj4 (cl:=Jc X.env fs) EX Hg ?_ F.kind Y3 (TR.go h hs λv AJ mv Ad m₁ Ac h1 h2 h3 h4 h5=>?_)
 ·refine AD (A0 F.frees)<|hV λx hx hl=>?_
  have:x.1∈fs:=by
   refine AD (A0 F.frees)<|DJ.mpr ⟨x,⟨(Ez.mpr ⟨hx,by refine AD hl ?_;rfl⟩),rfl⟩⟩
  exact F.cells hs Ke _ this
 (refine BQ h5 λhf A6=>?_;refine Ao A6 λitems P A2=>?_;refine BQ A2 λio BC=>?_;refine AI BC λI BM=>?_;refine Cu BM λhP F2 hI turn hK=>?_;clear BM BC A2 A6;try clear h5);refine It.start io h1 h4 λo S it S0 Rl=>?_;have Ik:AJ.heap.get? AJ.heap.objs.size=none:=FA _;have PX:(AJ.heap.push o).objs.size=AJ.heap.objs.size+1:=N4 ..;apply Uq _ _ _;dsimp only;have SE:((AJ.heap.push o).push ob).objs.size=AJ.heap.objs.size+2:=by rw[N4,PX]
 refine Ak1 Y2 (by intro y hy;simp at hy) (λJh NG Dt=>?_) F.kind;dsimp only at NG Dt|-;have k2:∀a o',(AJ.heap.push o).get? a=some o'->Jh.get? a=some o':=λa o' e=>by
  refine Dt.extBut a o' (G3 (G1 (EF e) ?_)) (DD _ (DD _ e));show(AJ.heap.push o).objs.size<=((AJ.heap.push o).push ob).objs.size;refine AD PX<|AD SE ?_;exact Tq _
 have ga:Jh.get? (AJ.heap.push o).objs.size=some ob:=Dt.extBut _ _ (G3 (by show(AJ.heap.push o).objs.size<((AJ.heap.push o).push ob).objs.size;refine AD PX<|AD SE ?_;exact CP _)) (DD _ (Dx _ AB2));have gI:Jh.get? AJ.heap.objs.size=some o:=k2 _ _ (Dx _ Rl);have gC:∃oC,Jh.get? ((AJ.heap.push o).push ob).objs.size=some oC:=by(refine A1 NG λoC Z Z Bx=>?_;refine BQ Bx λq Z=>?_;clear Bx;try clear NG);exact⟨oC,q⟩
 have k1:∀a o',AJ.heap.get? a=some o'->Jh.get? a=some o':=λa o' e=>k2 a o' (DD _ e);have Qs:∀a,AJ.heap.objs.size<=a->AJ.heap.get? a=none:=λa ha=>by
  cases e:AJ.heap.get? a with
  |none=>rfl
  |some o'=>exact absurd (EF e) (Ft.mpr ha)
 generalize hA:(AJ.heap.push o).objs.size=acc at*;generalize hCC:((AJ.heap.push o).push ob).objs.size=C at*;generalize M_:AJ.heap.objs.size=I0 at*;have lIA:I0<acc:=by exact AM 0x110310002120031049 rfl PX
 have Zd:acc<C:=by exact AQ 0x11001510002222031049122030049 rfl PX SE
 have lIC:I0<C:=by exact AM 0x110310002220031049 rfl SE
 have fA:=Qs acc (AM 0x110310000120031049 rfl PX);have fC:=Qs C (AM 0x110310000220031049 rfl SE);obtain⟨rN,sN⟩:=h1.rs.QX (h':=Jh) (N:=λb=>b=I0\/b=acc\/b=C) k1 (λb e=>by
  rcases e with rfl|rfl|rfl
  ·exact⟨Ik,⟨o,gI⟩⟩
  ·exact⟨fA,⟨ob,ga⟩⟩
  ·exact⟨fC,gC⟩)
 have Y7:=h1.next rN sN;have NR:∀a,AJ.heap.get? a=none->¬foot Ad a:=λa e f=>by obtain⟨z,q⟩:=Iw h1.rs f;exact CO q e
 have PG:∀a,AJ.heap.get? a=none->¬Own X.env a:=λa e f=>by obtain⟨z,q⟩:=h1.rs.live a (h1.fr.own a f).1;exact CO q e
 have na:AJ.heap.get? acc=none:=fA;have nC:AJ.heap.get? C=none:=fC;have hX:=wb (X:=X) (C:=C) F (D:=Ac) Y7 hf (.inr (.inr (.inr rfl))) (NR _ nC) NG;have nF:∀a,AJ.heap.get? a=none->a≠C->¬Own (Dm X scope C G fs).env a:=λa e n z=>by
  rcases z with z|⟨x,z⟩
  ·exact n z
  ·exact PG a e (.inr ⟨x,(Xw (F.cells h1 hf) z).2⟩)
 have S3:S 0 (λc=>Ac c\/(c=I0\/c=acc\/c=C)) Jh:=it.Va 0 _ _ _ _ S0 (.inr rfl) (λa o' Z e=>k2 a o' e) (λa o' e n z=>by
  rcases z with z|z|z|z
  ·exact n (.inl z)
  ·exact n (.inr z)
  ·rw[z]at e;exact G0 _ (hA▸EF e)
  ·rw[z]at e;exact G0 _ (Gf Zd (hA▸EF e))) (λo' e=>k2 _ _ e)
 have aA:acc≠Ku:=by
  have:(AJ.heap.push o).objs.size≠Ku:=QZ (X:=X) (V:=Ad) (m:=m₁) (D:=Ac) (h1.push (s:=AJ) o).1;rwa[hA]at this
 have loop:=iC (X:=Dm X scope C G fs) (e:=e) (depth:=0) (A4:=A4) (ifs:=ifs) (p:=p) (emit:=emit (Dm X scope C G fs).env) (I0:=I0) (acc:=acc) (items:=items) (P:=P) (S:=S) (mo:=PD) (s:={AJ with heap:=Jh,toks:=AJ.toks+([]:List (AV×Ap)).length})
  (Q:=λmo AE m'=>Good ls fs m₁ m'/\K mo AE m₁) (heq _ _ _) (hq _ _ _) (hd _ _ _) (λitems mo V m'=>Good ls fs m₁ m'/\I items mo V) (B:=Ac) (hB:=AJ.heap) (FU:=Ad) h1.rs.live (sN.JA λZ z=>z.elim) Ik hX it S3
  ⟨.inr (.inl rfl),NR _ Ik,nF _ Ik (G3 lIC)⟩ ⟨.inr (.inr (.inl rfl)),NR _ na,nF _ na (G3 Zd)⟩ (G3 lIA) (hob _ _ _ ga aA) Hi
  (λmv AN mo V m' z=>hP _ _ _ _ z.2) (λmo V m' z=>F2 _ _ z.2) ⟨?_,hI⟩ (λmv AN mo V m' z=>?_) (λmo V m' z=>⟨z.1,hK mo V z.2⟩)
 ·refine AC1 _ _ _ _ _ (λQ E q=>it.self 0 _ _ _ S3 Q E q) (LV loop λr s' p=>?_);(refine Bc p λAE m' D' CS CB=>?_;refine QT CB λNj p1 p2 p3 p4 p5 p6 p7 p8=>?_;clear CB;try clear p;subst Nj);obtain⟨z1,z2⟩:=wc F h1 hf nC na Ik p1 p2 λx hx=>by
   have:m'=_:=p7;refine AD this ?_;exact mD F hx
  (refine AI p1.fr.ns λmC B0=>?_;refine BQ B0 λhmC Z=>?_;clear B0);obtain oC:=p1.fr.own C (.inl rfl);refine DF (z1.adopt z2 ⟨p6.inD,p6.nf,PG acc na⟩ na p4 p5) λz1 st Z7=>k acc s' AE m₁ D' CS z1 (h2.trans hs.rs.live st) (h3.trans (CV.trans (b:={AJ with heap:=Jh,toks:=AJ.toks+([]:List (AV×Ap)).length}) ⟨rfl,rfl,rfl⟩ p3)) p6.nf p8 C mC hmC oC.1 (Z7 C (fb Zd) oC.2) (PG C nC) (h2.none nC)
 ·unfold Good;have:∀x∈ls,(none:Option MV)=CT (C9 ls (λZ=>none) fs m₁) x:=λx hx=>by
   unfold C9;have z:BG (ls.map λx=>(x,(none:Option MV))) x=true:=by
    exact Ra hx
   exact AD (VF z) AD Zo rfl
  show C9 ls (λZ=>none) fs m₁=(ls.map λx=>(x,CT (C9 ls (λZ=>none) fs m₁) x))++_;refine AD (OA λx hx=>by rw[<-this x hx]) ?_;rfl
 ·have t:=turn C mv AN mo V (λx=>CT m' x) z.2;have gd:m'=C9 ls (λx=>CT m' x) fs m₁:=z.1;rw[<-gd]at t;exact t
end
section
variable{X:Cx}{scope:E4}{ls fs G:List AV}{V:Hp}{m:Lc}
noncomputable def Qm(Av:Expr)(env:FX)(acc:Ap):EG Unit:=do let _<-call (.builtin "list.append") [acc,<-Ab Av env]
theorem AA9(Av A4 iter)(ifs)(scope)(pos)(it acc)(env):
 M5 (.ListComp Av [⟨A4,iter,ifs,0⟩] scope pos) 0 it acc env=O9 (.ListComp Av [⟨A4,iter,ifs,0⟩] scope pos) 0 A4 ifs iter.pos it acc env (Qm Av env):=by rfl
theorem mw(Q)(E)(s)(h:Q (.ref s.heap.objs.size) {s with heap:=s.heap.push (GN #[] 0)}):Aq M A (newList []) Q E s:=bY h
theorem AW7(BZ)(I0)(acc)(R)(s)
 (h:∀Q E,Q (.ref I0) s->Aq (A7 BJ w) A (R0 (.ref I0)) Q E s) (h0:GI (A7 BJ w) A (.compLoop (.ListComp Av [⟨A4,iter,ifs,0⟩] scope pos) 0 (.ref I0) acc BZ) R s):
 GI (A7 BJ w) A (.compStart (.ListComp Av [⟨A4,iter,ifs,0⟩] scope pos) 0 (.ref I0) acc BZ) R s:=codeAny_compStart_list h0 (h _ _ h0)
def Me(X:Cx)(scope:E4)(ls fs G:List AV)(Av A4 iter:Expr)(ifs:List Expr)(V:Hp)(m:Lc)(K:List MV->Hp->Lc->Prop):Prop:=
 TR X VR (Ab iter X.env) V m λv V m=>(∀x∈fs,BG m x=true/\X.C.contains x=true)/\∃items P,FF v V items P/\∃I:List MV->List MV->Hp->Prop,
  (∀mv AN l V,I (mv::AN) l V->P V)/\(∀l V,I [] l V->P V)/\I items [] V/\
  (∀C mv AN l V f,I (mv::AN) l V->TA (Dm X scope C G fs) A4 mv V (C9 ls f fs m) λV m'=>TR (Dm X scope C G fs) RB (tests ifs (Dm X scope C G fs).env) V m' λok V m'=>
   if ok=true then TR (Dm X scope C G fs) VR (Ab Av (Dm X scope C G fs).env) V m' (λv V L3=>l.length<=100000/\Good ls fs m L3/\I AN (l++[v]) V)else Good ls fs m m'/\I AN l V)/\
  (∀l V,I [] l V->K l V m)
theorem Me.core(F:CF scope ls fs G){use K Q E s D}(hs:St X D s.heap V m)
 (Hg:∀x,Jf iter X.env x=pure x) (Ke:∀x∈fs,BG m x=true/\X.C.contains x=true) (h:Me X scope ls fs G Av A4 iter ifs V m K)
 (k:∀acc AJ Ad m₁ Ac l,St X Ac AJ.heap (Ad.set acc (.list l)) m₁->Step (Own X.env) D s.heap V Ac AJ.heap (Ad.set acc (.list l))->CV s AJ->¬foot Ad acc->K l Ad m₁->
  ∀C mm,AJ.heap.Ns C mm->Ac C->¬foot (Ad.set acc (.list l)) C->¬Own X.env C->s.heap.get? C=none->X0 (A7 BJ X.w) X.A E use Q (.ref acc) C (.ok .next) AJ):
 Aq (A7 BJ X.w) X.A (UO (.ListComp Av [⟨A4,iter,ifs,0⟩] scope pos) scope X.env p' (newList []) false (Ab iter X.env) use) Q E s:=by
 refine h_ (K:=λmo V m=>∃l,mo=.list l/\K l V m) F (A4:=A4) (ifs:=ifs) (emit:=λenv=>Qm Av env) (PD:=.list []) rfl Hg mw rfl (λD h a e Z=>(Aj (#[]) 0 ⟨e,trivial⟩)) rfl AW7 (λBZ I0 acc=>AA9 _ _ _ _ _ _ _ _ _) (λZ Z Z=>rfl) (λZ Z Z Z Z Z h=>h) hs Ke
  (TR.mono h λv V m zP=>?_)
  (λacc AJ Ad m₁ Ac mo a b c d zF4=>by(refine AI zF4 λl AR=>?_;obtain e:=AR.1;obtain z:=AR.2);subst e;exact k acc AJ Ad m₁ Ac l a b c d z)
 (obtain hf:=zP.1;obtain Af:=zP.2;refine Ao Af λitems P AX=>?_;obtain io:=AX.1;obtain A9:=AX.2;refine AI A9 λI Ai=>?_;obtain hP:=Ai.1;obtain F2:=Ai.2.1;obtain hI:=Ai.2.2.1;obtain turn:=Ai.2.2.2.1;obtain hK:=Ai.2.2.2.2);refine⟨hf,(Aj items P ⟨io,⟨(λr mo V=>∃l,mo=.list l/\I r l V),(An (λmv AN mo V MT=>by(refine AI MT λl A5=>?_;obtain z:=A5.2);exact hP _ _ _ _ z) (λmo V Pl=>by(refine AI Pl λl A6=>?_;obtain z:=A6.2);exact F2 _ _ z) ⟨([]),⟨rfl,hI⟩⟩ (λC mv AN mo V f ⟨l,e,z⟩=>?_) (λmo V WG=>by(refine AI WG λl A2=>?_;obtain e:=A2.1;obtain z:=A2.2);exact⟨l,⟨e,(hK l V z)⟩⟩))⟩⟩)⟩;subst e;intro s D v Cy hv;refine Bz (turn C mv AN l V f z s D v Cy hv) (λZ AJ p=>?_) λZ Z x=>x;(refine Bc p λu Ad m₁ Ac AR=>?_;obtain h1:=AR.1;obtain h2:=AR.2.1;obtain h3:=AR.2.2.1;obtain h4:=AR.2.2.2.1;obtain h5:=AR.2.2.2.2);refine(Ar u Ad m₁ Ac (An h1 h2 h3 h4 (TR.mono h5 λok V m' y=>?_)));cases ok with
 |false=>rw[if_neg (by decide)]at y|-;exact⟨y.1,⟨l,⟨rfl,y.2⟩⟩⟩
 |true=>
  rw[if_pos rfl]at y|-;exact iV (TR.mono y λv V L3 cG=>by(obtain y1:=cG.1;obtain y2:=cG.2.1;obtain y3:=cG.2.2);exact(AO y1 y2 ⟨(l++[v]),⟨rfl,y3⟩⟩))
theorem St.mB{D:AU->Prop}{s AJ:Bq}{Ac:AU->Prop}{Ad:Hp}{m₁:Lc}{C:AU}(hs:St X D s.heap V m)(h:St X Ac AJ.heap Ad m₁)(st:Step (Own X.env) D s.heap V Ac AJ.heap Ad)(dC:Ac C)(nf:¬foot Ad C)(no:¬Own X.env C)(nC:s.heap.get? C=none){mm:AV->Option Ap}(hN:AJ.heap.Ns C mm)
 {h':BU} (sb:JT C AJ.heap h'):∃Bk,St X Bk h' Ad m₁/\Step (Own X.env) D s.heap V Bk h' Ad/\∀mv v,VR X.w Ac AJ.heap mv v->VR X.w Bk h' mv v:=by
 have a:Ey X Ac AJ.heap Ad C:=⟨dC,nf,no⟩;have kp:∀c o,c≠C->AJ.heap.get? c=some o->h'.get? c=some o:=λc o n e=>(sb.2 c n).trans e;obtain⟨z1,z2⟩:=h.X4 a kp;exact⟨_,(AO z1 (st.Qj hs.rs.live nC kp) z2)⟩
theorem X1{x:AV}{px:G4}{D Ac:AU->Prop}{s AJ:Bq}{Ad:Hp}{m₁:Lc}{acc C:AU}{mv:MV}{mm:AV->Option Ap}{Q:Res->Hp->Lc->Prop}(hs:St X D s.heap V m)(a:St X Ac AJ.heap Ad m₁)(b:Step (Own X.env) D s.heap V Ac AJ.heap Ad)(c:CV s AJ)(hx:BG m₁ x=true)(hv:VR X.w Ac AJ.heap mv (.ref acc))
 (hN:AJ.heap.Ns C mm) (dC:Ac C) (nf:¬foot Ad C) (no:¬Own X.env C) (nC:s.heap.get? C=none) (q:Q .next Ad (DS m₁ x mv)):
 X0 (A7 BJ X.w) X.A Dr (some (G6 (.Name x px) X.env)) (λZ s'=>AW X RF D s V Q TJ s') (.ref acc) C (.ok .next) AJ:=by
 show Aq _ _ (G6 (.Name x px) X.env (.ref acc)) _ _ AJ;refine bX (Bz (SA (mv:=mv) (Q:=λZ AE m'=>AE=Ad/\m'=DS m₁ x mv) a hv hx ⟨rfl,rfl⟩) (λZ A8 p=>?_) λZ Z x=>x.elim);refine Bc p λZ Dq m₂ Bk z=>Cu z λp1 p2 p3 Z p5=>?_;obtain⟨rfl,rfl⟩:=p5;refine A1 hN λo es ep z=>BQ z λe1 e2=>?_;obtain jv:A8.heap.Ns C mm:=BK o es ep ⟨p2.keep _ _ e1 nf no,e2⟩;exact⟨mm,jv,λh' sb=>(hs.mB p1 (b.trans hs.rs.live p2) (p2.GJ _ dC nf) (λf=>(p2.F0 C f).elim nf λq=>CO e1 q) no nC jv sb).elim λFq z=>Ar .next _ _ Fq (An z.1 z.2.1 ⟨(c.trans p3).gens,(c.trans p3).drawn,(c.trans p3).os⟩ trivial q)⟩
theorem pg(F:CF scope ls fs G){Av A4 iter:Expr}{ifs:List Expr}{pos:G4}{Q:MV->Hp->Lc->Prop}(Ke:∀x∈fs,BG m x=true/\X.C.contains x=true)
 (h:Me X scope ls fs G Av A4 iter ifs V m λl V m=>∀a,¬foot V a->Q (.ref a) (V.set a (.list l)) m)
 (Hg:∀x,Jf iter X.env x=pure x):TR X VR (Ab (.ListComp Av [⟨A4,iter,ifs,0⟩] scope pos) X.env) V m Q:=λs D hs=>by
 refine AD (eval_ListComp ..)<|h.core F hs Hg Ke λacc AJ Ad m₁ Ac l a b c d e C mm hN dC nf no nC=>⟨mm,⟨hN,(λh' sb=>?_)⟩⟩
 (refine AI (hs.mB a b dC nf no nC hN sb) λBk Af=>?_;obtain z1:=Af.1;obtain z2:=Af.2.1;obtain z3:=Af.2.2);exact(Ar (.ref acc) _ m₁ Bk (An z1 z2 ⟨c.gens,c.drawn,c.os⟩ (by simp only[AZ]) (e acc d)))
end
def DE(V AE:Hp):Prop:=∀a o,V a=some o->AE a=some o
theorem DE.foot(h:DE V AE)(f:foot V a):foot AE a:=by
 rcases f with⟨o,e⟩|⟨x,c,ks,vs,e⟩
 ·exact .inl ⟨o,h _ _ e⟩
 ·exact .inr (Ar x c ks vs (h _ _ e))
theorem RS.sub(r:RS w h₀ D h AE)(s:DE V AE):RS w h₀ D h V:=
 ⟨r.live,r.base,λa o e=>r.obj a o (s a o e),λa c d ks vs e=>by
  (refine DF (r.E8 a c d ks vs (s _ _ e)) λq1 q2 q3=>?_);refine(AO q1 ?_ (λa' c' FI FE e'=>q3 a' c' FI FE (s _ _ e')));cases z:V d with
  |none=>rfl
  |some o=>rw[s _ _ z]at q2;exact sN q2⟩
theorem Step.AX5(t:Step own D h KG D' h' AE)(s:DE V AE):Step own D h KG D' h' V:=⟨t.GJ,t.H9,λa f=>t.F0 a (s.foot f),t.keep,t.live⟩
theorem St.sub(x:St X D h AE m)(s:DE V AE):St X D h V m:=
 ⟨x.rs.sub s,⟨x.fr.kind,x.fr.glob,x.fr.G7,λa o=>⟨(x.fr.own a o).1,λf=>(x.fr.own a o).2 (s.foot f)⟩,x.fr.ns,x.fr.cell,x.fr.kn,x.fr.cells,x.fr.apart⟩,x.bs,x.ok,x.gl,x.kd⟩
inductive Cv (Q:MV->Hp->Prop):MV->Hp->Prop
 |done {v V}:Q v V->Cv Q v V
 |list {a l V}:V a=some (.list l)->Cv Q (.lst l) (V.del a)->Cv Q (.ref a) V
 |di {a l V}:V a=some (.di l)->Cv Q (.di l) (V.del a)->Cv Q (.ref a) V
 |dp {a l V}:V a=some (.dp l)->Cv Q (.dp l) (V.del a)->Cv Q (.ref a) V
 |inst {a c d ks vs V}:V a=some (.inst c d ks vs)->Cv Q (.ins c ks vs) (V.del a)->Cv Q (.ref a) V
 |sub {v V AE}:DE V AE->Cv Q v V->Cv Q v AE
theorem jH(r:RS w h₀ D h V)(e:V a=some (.list l))(hv:VR w D h (.ref a) v):VR w (λb=>D b/\¬(b=a\/DQ (.list l)=some b)) h (.lst l) v:=by
 simp only[AZ]at hv|-;(obtain qZ:=(r.obj a _ e);obtain dD:=qZ.1;obtain A6:=qZ.2;refine Ao A6 λxs n A2=>?_;obtain g:=A2.1;obtain r':=A2.2);exact(BK a xs n (BR hv (λz=>z.2 (.inl rfl)) g (AY.mono (λZ Z Z q=>q) (λZ Z Z n z=>n z.1) _ _ r')))
theorem jE(r:RS w h₀ D h V)(e:V a=some (.di l))(hv:VR w D h (.ref a) v):VR w (λb=>D b/\¬(b=a\/DQ (.di l)=some b)) h (.di l) v:=by
 simp only[AZ]at hv|-;exact⟨a,(AO hv (λz=>z.2 (.inl rfl)) ((r.obj a _ e).2))⟩
theorem jF(r:RS w h₀ D h V)(e:V a=some (.dp l))(hv:VR w D h (.ref a) v):VR w (λb=>D b/\¬(b=a\/DQ (.dp l)=some b)) h (.dp l) v:=by
 simp only[AZ]at hv|-;exact⟨a,(AO hv (λz=>z.2 (.inl rfl)) (Hz.mono (λZ q=>q) (λZ Z Z q=>q) (λZ Z Z n z=>n z.1) (r.obj a _ e).2))⟩
theorem jG(r:RS w h₀ D h V)(e:V a=some (.inst c d ks vs))(hv:VR w D h (.ref a) v):VR w (λb=>D b/\¬(b=a\/DQ (.inst c d ks vs)=some b)) h (.ins c ks vs) v:=by
 simp only[AZ]at hv|-;(obtain cV:=(r.obj a _ e);obtain dD:=cV.1;obtain g:=cV.2.1;obtain BC:=cV.2.2;refine Ao BC λes n BM=>?_;obtain gd:=BM.1;obtain ak:=BM.2.1;obtain r':=BM.2.2);exact(Ar a d es n (Dz hv (λz=>z.2 (.inl rfl)) (λz=>z.2 (.inr rfl)) g gd ak (AY.mono (λZ Z Z q=>q) (λZ Z Z n z=>n z.1) _ _ r')))
theorem Cv.NW(c:Cv Q mv V):∀{D},RS w h₀ D s'.heap V->Step Ff LD s.heap KG D s'.heap V->(∀a,LD a->∃o,s.heap.get? a=some o)->CV s s'->VR w D s'.heap mv v->QL w h₀ LD s KG Q v s':=by
 induction c with
 |done q=>exact λ{D} r st _ sr hv=>(BK _ _ D (An r st sr hv q))
 |list e _ ih=>exact λ{D} r st lv sr hv=>ih (r.freeze e).1 (st.trans lv (r.freeze e).2) lv sr (jH r e hv)
 |di e _ ih=>exact λ{D} r st lv sr hv=>ih (r.freeze e).1 (st.trans lv (r.freeze e).2) lv sr (jE r e hv)
 |dp e _ ih=>exact λ{D} r st lv sr hv=>ih (r.freeze e).1 (st.trans lv (r.freeze e).2) lv sr (jF r e hv)
 |inst e _ ih=>exact λ{D} r st lv sr hv=>ih (r.freeze e).1 (st.trans lv (r.freeze e).2) lv sr (jG r e hv)
 |sub e _ ih=>exact λ{D} r st lv sr hv=>ih (r.sub e) (st.AX5 e) lv sr hv
theorem Ag.cv(h:Ag w h₀ n f args V (Cv Q)):Ag w h₀ n f args V Q:=λA s D vs a b c d=>LV (h A s D vs a b c d) λr s' p=>by
 rcases r with e|(v|_|_|_)<;>first|exact p.elim|exact((by(refine A1 p λmv AE D' BC=>?_;obtain h1:=BC.1;obtain h2:=BC.2.1;obtain h3:=BC.2.2.1;obtain h4:=BC.2.2.2.1;obtain h5:=BC.2.2.2.2);exact Cv.NW h5 h1 h2 c.live h3 h4))
theorem TR.cv(h:TR X VR t V m λv AE m'=>m'=m/\Cv (λv V=>Q v V m) v AE):TR X VR t V m Q:=λs D hs=>by
 refine TR.go h hs λv AJ mv Ad m₁ Ac h1 h2 h3 h4 h5=>?_;obtain⟨rfl,c⟩:=h5;have:=Cv.NW c (w:=X.w) (h₀:=X.h₀) (s:=AJ) (s':=AJ) (LD:=Ac) (KG:=Ad) h1.rs Step.refl h1.rs.live CV.refl h4;(refine A1 this λF5 AE D' Bx=>?_;obtain k1:=Bx.1;obtain k2:=Bx.2.1;obtain k3:=Bx.2.2.1;obtain k4:=Bx.2.2.2.1;obtain k5:=Bx.2.2.2.2);exact(Ar F5 AE m₁ D' (An (h1.next k1 k2) (h2.trans hs.rs.live k2.Hn) h3 k4 k5))
theorem Gh(h:¬foot V a):(V.set a o).del a=V:=by
 funext b;unfold Hp.set Hp.del;by_cases e:b=a
 ·subst e;simp only[if_true];cases z:V b with
  |none=>rfl
  |some o=>exact absurd (.inl ⟨o,z⟩) h
 ·simp only[e,if_false]
theorem bB(h:¬foot V a):DE V (V.set a o):=λb o' e=>by
 unfold Hp.set;split
 ·rename_i z;subst z;exact absurd (.inl ⟨o',e⟩) h
 ·exact e
noncomputable def Dc(P:Fu)(a:AU):FuncData:=match(KK P).lookup a with|some ⟨_,_,.func fd,_⟩=>fd|_=>default
noncomputable def M0(P:Fu)(a:AU):List E5:=match(Dc P a).body with| .stmts b=>b|_=>[]
theorem AD0{p q:Prop}(h1:b=true->p)(h2:b=false->q):if b=true then p else q:=by cases b<;>simp_all
theorem AD1[Decidable c]{p q:Prop}(h1:c->p)(h2:¬c->q):if decide c=true then p else q:=by by_cases h:c<;>simp[h,h1,h2]
theorem AS{V:Hp}{a:AU}{o:MO}:(V.set a o) a=some o:=by simp[Hp.set]
theorem AL{V:Hp}{a b:AU}{o:MO}(h:b≠a):(V.set a o) b=V b:=by simp[Hp.set,h]
theorem set_set{V:Hp}{a:AU}{o o':MO}:(V.set a o).set a o'=V.set a o':=by
 funext b;unfold Hp.set;split<;>rfl
theorem xK{a b:Int}{p q:Prop}(h1:a=b->p)(h2:a≠b->q):if(a==b)=true then p else q:=by by_cases h:a=b<;>simp[h,h1,h2]
theorem AI8{a b:Int}{p q:Prop}(h1:a≠b->p)(h2:a=b->q):if(a != b)=true then p else q:=by by_cases h:a=b<;>simp[h,h1,h2]
theorem AK2[Decidable c]{p q:Prop}(h1:¬c->p)(h2:c->q):if(!decide c)=true then p else q:=by by_cases h:c<;>simp[h,h1,h2]
theorem AK1{p q:Prop}(h1:b=false->p)(h2:b=true->q):if(!b)=true then p else q:=by cases b<;>simp_all
noncomputable def Z_:Expr->Bool
 | .Slice _ _ _ _=>false
 |_=>true
theorem Ac9
 (h:TR X VR (Ab Bv X.env) V m λa V m=>TR X VR (Ab slice X.env) V m λb V m=>BO X (J0 Bv slice) a b V m Q) (hn:Z_ slice=true):TR X VR (Ab (.Subscript Bv slice pos) X.env) V m Q:=Ac8 h
theorem FD.of(h1:∃oc od sl,(KK P).lookup a=some ⟨oc,od,.func (Dc P a),sl⟩)(h2:hZ (KK P) (Dc P a).code (Dc P a).qualname=true)(h3:(Dc P a).body=.stmts (M0 P a))
 (h4:(Dc P a).closure=[]) (h5:(Dc P a).globals=Ea) (h6:(Dc P a).builtins=UJ) (h7:(Dc P a).scope.isCoroutine=false) (h8:(Dc P a).scope.isGenerator=false) (h9:(Dc P a).scope.kind=.function):FD P a (Dc P a) (M0 P a):=⟨h1,h2,h3,h4,h5,h6,h7,h8,h9⟩
section
variable{X:Cx}{α β:Type}{R:CE->(AU->Prop)->BU->β->α->Prop}{t:EG α}{V:Hp}{m:Lc}{Q:β->Hp->Lc->Prop}
end
def gL:Nat->(List Ap->Prop)->Prop
 |0,P=>P []
 |n+1,P=>∀v,gL n λl=>P (v::l)
theorem gM(n):∀{P},gL n P->∀vs,vs.length=n->P vs:=by
 induction n with
 |zero=>
  intro P h vs e;cases vs with
  |nil=>exact h
  |cons v vs=>exact absurd e (uQ _)
 |succ n ih=>
  intro P h vs e;cases vs with
  |nil=>exact absurd e.symm (uQ _)
  |cons v vs=>exact ih (h v) vs (uP e)
section
variable{X:Cx}{V:Hp}{m:Lc}
end
end Mine.Internal
namespace Mine.Internal
noncomputable def ek:Expr->Nat
 | .Name .. =>1
 | .Attribute .. =>2
 | .Subscript .. =>3
 | .Call .. =>4
 | .ListComp .. =>5
 | .SetComp .. =>6
 | .DictComp .. =>7
 | .Starred .. =>8
 | .Tuple .. =>9
 |_=>0
noncomputable def nE:Expr->Option (AV×G4)
 | .Name x p=>some (x,p)
 |_=>none
noncomputable def GW(ts:List Expr)(e:Expr):Option AV:=(nE e).bind λz=>if z.2.line==(ts.head?.map (·.pos.line)).getD 0 then some z.1 else none
noncomputable def o9(e:Expr):Bool:=ek e==8
noncomputable def Na(ts vs:List Expr):Option (Option (List AV)):=
 if !(ts.length==2||ts.length==3)||vs.length != ts.length then some none else
 if vs.any o9 then some none else
 if(ts.filterMap (GW ts)).length != ts.length||(ts.filterMap (GW ts)).eraseDups.length != (ts.filterMap (GW ts)).length then some none else
 if vs.all (foldedForSure 8)then some none else if vs.all (constantsAlone 8)then none else some (some (ts.filterMap (GW ts)))
theorem yC{f g:Expr->Option AV}{l:List Expr}(h:∀x∈l,f x=g x):l.filterMap f=l.filterMap g:=by
 induction l with
 |nil=>rfl
 |cons a l ih=>rw[tR,tR,h a (.head _),ih λx hx=>h x (.tail _ hx)]
theorem R2{β γ:Type}[Decidable c]{a b:Option β}{x y z:γ}{r:β}(h1:a=some r->x=z)(h2:b=some r->y=z):(if c then a else b)=some r->(if c then x else y)=z:=by
 by_cases h:c
 ·rw[if_pos h,if_pos h];exact h1
 ·rw[if_neg h,if_neg h];exact h2
theorem R1{β:Type}[Decidable c]{a b:Option β}{r:β}{G:Prop}(h1:a=some r->G)(h2:b=some r->G):(if c then a else b)=some r->G:=by
 by_cases h:c
 ·rw[if_pos h];exact h1
 ·rw[if_neg h];exact h2
theorem rP{β:Type}{x r}(e:some x=some r):(pure x:EG β)=pure r:=congrArg pure (Au e)
theorem u6(h:∀x,f x=g x)(l:List Expr):l.any f=l.any g:=by rw[funext h]
theorem swap_eq{k k2:Nat}{tp p2 env}{r:Option (List AV)}(hf:env.scope.kind=.function)(hk:∀x∈ts.filterMap (GW ts),env.kindOf x=some .local)(e:Na ts vs=some r):
 PW [.Tuple ts k tp] (.Tuple vs k2 p2) env=pure r:=by
 obtain hb:env.blockKind=.function:=by unfold TG;refine AD hf ?_;rfl
 unfold Na at e;unfold PW;dsimp only
 (refine AD hb ?_;rw[u6 (g:=o9) (λx=>by cases x<;>rfl)];refine AD (yC (g:=GW ts) (λx hx=>by
  cases x with
  |Name id pos=>
   show(if(env.kindOf id==some .local&&pos.line==(ts.head?.map (·.pos.line)).getD 0)=true then some id else none)=if pos.line==(ts.head?.map (·.pos.line)).getD 0 then some id else none
   by_cases hl:(pos.line==(ts.head?.map (·.pos.line)).getD 0)=true
   ·obtain this:id∈ts.filterMap (GW ts):=fS.mpr ⟨_,⟨hx,(by show(if _ then _ else _)=_;rw[if_pos hl])⟩⟩
    rw[hk id this,hl];rfl
   ·rw[eQ]at hl
    rw[hl,eN]
  |_=>rfl)) ?_)
 simp only[bne_self_eq_false,eS];revert e;exact R2 rP (R2 rP (R2 rP (R2 rP (R2 (λe=>nS e) rP))))
theorem pI(en:ts.filterMap (GW ts)=names)(e:Na ts vs=some r)(hk:∀x∈names,env.kindOf x=some .local)(hf:env.scope.kind=.function):
 PW [.Tuple ts k tp] (.Tuple vs k2 p2) env=pure r:=swap_eq hf (λx hx=>hk x (en▸hx)) e
theorem ke{names C:List AV}{m:Lc}(h:(names.all λx=>BG m x&&!C.contains x)=true):∀x∈names,BG m x=true/\C.contains x=false:=λx hx=>by
 obtain this:=Il.mp h x hx;rw[KH,N1]at this;exact this
end Mine.Internal
namespace Mine.Internal
theorem pK(hl:(px.line==pos.line)=true)(hn:(scope.names.any λx=>x.1==t&&(x.2==.local||x.2==.cell))=false)(hk:env.kindOf t=some .local)(hf:env.scope.kind=.function):
 HJ (.ListComp Av gens scope pos) (some (.Name t px)) line env=pure true:=by
 obtain hb:env.blockKind=.function:=by unfold TG;rw[hf];rfl
 unfold HJ;dsimp only[eZ];show pure (env.blockKind==.function&&env.kindOf t==some .local&&px.line==pos.line&&!(scope.names.any λx=>x.1==t&&(x.2==.local||x.2==.cell)))=_;rw[hb,hk,hl,hn];rfl
noncomputable def me:MO->Nat
 | .list _=>0
 | .di _=>1
 | .dp _=>2
 | .inst c _ _ _=>c+3
theorem neT{V:Hp}{a b:AU}{A B:MO}(h:V a=some A)(k:V b=some B)(t:Nat.beq (me A) (me B)=false):a≠b:=λz=>by
 have e:=Au (h.symm.trans ((congrArg V z).trans k));rw[e,Nat.beq_refl]at t;exact tF t
theorem neN{V:Hp}{a b:AU}{A:MO}(h:V a=some A)(k:V b=none):a≠b:=λz=>sN (h.symm.trans ((congrArg V z).trans k))
noncomputable def DA(a:AU)(r:MV):MV->MV
 | .ref b=>if b=a then r else .ref b
 |v=>v
theorem PV:(∀a r b,DA a r (.ref b)=if b=a then r else .ref b)/\(∀a r b,DA a r (.bool b)=.bool b)/\(∀a r b,DA a r (.int b)=.int b)/\(∀a r b,DA a r (.bytes b)=.bytes b)/\(∀a r b,DA a r (.lst b)=.lst b)/\(∀a r b,DA a r (.tup b)=.tup b)/\(∀a r b,DA a r (.di b)=.di b)/\(∀a r b,DA a r (.dp b)=.dp b)/\(∀a r b c d,DA a r (.ins b c d)=.ins b c d)/\(∀a r b c,DA a r (.D2 b c)=.D2 b c)/\(∀a r,DA a r .none=.none):=⟨λZ Z Z=>rfl,λZ Z Z=>rfl,λZ Z Z=>rfl,λZ Z Z=>rfl,λZ Z Z=>rfl,λZ Z Z=>rfl,λZ Z Z=>rfl,λZ Z Z=>rfl,λZ Z Z Z Z=>rfl,λZ Z Z Z=>rfl,λZ Z=>rfl⟩
noncomputable def E6:MO->MV
 | .list l=>.lst l
 | .di l=>.di l
 | .dp l=>.dp l
 | .inst c _ ks vs=>.ins c ks vs
theorem jI(r:RS w h₀ D h V)(e:V a=some mo):VR w (λb=>D b/\¬(b=a\/DQ mo=some b)) h (E6 mo) (.ref a):=by
 cases mo with
 |list l=>exact jH r e (by simp only[AZ])
 |di l=>exact jE r e (by simp only[AZ])
 |dp l=>exact jF r e (by simp only[AZ])
 |inst c d ks vs=>exact jG r e (by simp only[AZ])
theorem bA(hr:VR w D h r (.ref a))(hv:VR w D h mv v):VR w D h (DA a r mv) v:=by
 cases mv with
 |ref b=>
  show VR w D h (if b=a then r else .ref b) v;by_cases z:b=a
  ·refine AD (if_pos z) ?_;subst z;simp only[AZ]at hv;subst hv;exact hr
  ·refine AD (if_neg z) ?_;exact hv
 |_=>exact hv
theorem pE(hr:VR w D h r (.ref a)):∀{ms vs},AY w D h ms vs->AY w D h (ms.map (DA a r)) vs
 |[],[],_=>by simp only[OB,BD]
 |m::ms,v::vs,x=>by
  simp only[By,BD]at x|-;exact⟨bA hr x.1,pE hr x.2⟩
 |[],_::_,x=>by simp only[BD]at x
 |_::_,[],x=>by simp only[BD]at x
noncomputable def IU(a:AU)(r:MV)(m:Lc):Lc:=m.map λp=>(p.1,p.2.map (DA a r))
theorem Zp:∀{m},CT (IU a r m) x=(CT m x).map (DA a r)
 |[]=>rfl
 |(y,o)::m=>by
  obtain ih:=Zp (a:=a) (r:=r) (x:=x) (m:=m);show(if y=x then o.map (DA a r)else CT (IU a r m) x)=(if y=x then o else CT m x).map (DA a r);split
  ·rfl
  ·exact ih
theorem Zs:∀{m},BG (IU a r m) x=BG m x
 |[]=>rfl
 |(y,o)::m=>by
  show(if y=x then true else BG (IU a r m) x)=(if y=x then true else BG m x);exact AD Zs rfl
theorem St.yQ(hs:St X D h V m)(e:V a=some mo):St X (λb=>D b/\¬(b=a\/DQ mo=some b)) h (V.del a) (IU a (E6 mo) m):=by
 have fz:=hs.rs.freeze e;have fr:=jI hs.rs e;have h2:=hs.next fz.1 fz.2;refine⟨h2.rs,⟨h2.fr.kind,h2.fr.glob,h2.fr.G7,h2.fr.own,?_,?_,?_,h2.fr.cells,h2.fr.apart⟩,h2.bs,h2.ok,h2.gl,λx hx=>h2.kd x (by rw[Zs]at hx;exact hx)⟩
 ·(refine AI h2.fr.ns λmr AR=>?_;obtain n1:=AR.1;obtain n2:=AR.2);refine⟨mr,⟨n1,(λx mv hx hk=>?_)⟩⟩;rw[Zp]at hx;(refine AI (OF.mp hx) λZ5 Af=>?_;obtain e0:=Af.1;obtain K5:=Af.2;subst K5);(refine AI (n2 x Z5 e0 hk) λv A9=>?_;obtain e1:=A9.1;obtain e2:=A9.2);exact⟨v,⟨e1,(bA fr e2)⟩⟩
 ·intro x mv hx;rw[Zp]at hx;(refine AI (OF.mp hx) λZ5 Ai=>?_;obtain e0:=Ai.1;obtain Eb:=Ai.2;subst Eb);rcases h2.fr.cell x Z5 e0 with q|⟨c,v,e1,e2,e3⟩
  ·exact .inl q
  ·exact .inr (Aj c v (AO e1 e2 (bA fr e3)))
 ·intro x hx;rw[Zs]at hx;exact h2.fr.kn x hx
theorem Ae1{α β:Type}{R:CE->(AU->Prop)->BU->β->α->Prop}{t:EG α}{Q:β->Hp->Lc->Prop}(e:V a=some mo)(h:TR X R t (V.del a) (IU a (E6 mo) m) Q):TR X R t V m Q:=λs D hs=>
 Bz (h s _ (hs.yQ e)) (λZ A8 p=>AW.trans (AJ:=s) hs (hs.rs.freeze e).2.Hn ⟨rfl,rfl,rfl⟩ p) λZ Z x=>x
inductive Fz (AE:Hp) (m':Lc):Hp->Lc->Prop
 |refl:Fz AE m' AE m'
 |step {V:Hp} {m:Lc} {a:AU} {mo:MO} (e:V a=some mo) (h:Fz AE m' (V.del a) (IU a (E6 mo) m)):Fz AE m' V m
theorem Ae2{α β:Type}{R:CE->(AU->Prop)->BU->β->α->Prop}{t:EG α}{Q:β->Hp->Lc->Prop}(h:TR X R t AE m' Q)(f:Fz AE m' V m):TR X R t V m Q:=by
 induction f with
 |refl=>exact h
 |step e _ ih=>exact Ae1 e ih
section
variable{prog:H5}{w:CE}{A:Hx}{E:Ap->Bq->Prop}{s:Bq}
theorem iO(Ce:t≠it):∀n i s Q,s.heap.IsListIter it t i->s.heap.IsList t items->i+n<=items.size->
 (∀h',h'.IsListIter it t (i+n)->JT it s.heap h'->Q ((items.toList.drop i).take n) {s with heap:=h'})->Aq (A7 prog w) A (draw (.ref it) n) Q E s
 |0,i,s,Q,hit,_,_,hQ=>by
  show Aq _ _ (pure []) Q E s;exact BN (by simpa using hQ s.heap hit (Ao2 ..))
 |n+1,i,s,Q,hit,ht,hle,hQ=>by
  obtain Cq:i<items.size:=by exact AQ 0x10011510002101220300309 rfl hle
  show Aq _ _ (PJ (.ref it)>>=_) Q E s;refine Ae (bc hit ht (x:=items[i]) (by simp[Cq]) λC8 Q8 Ki=>?_);refine Ae (F9 (iO Ce n (i+1) _ _ Q8 (ht.extBut Ki.extBut Ce) (AQ 0x11220101200330201210300309 rfl hle) λFh Yw Lq=>BN ?_));obtain hd:items.toList.drop i=items[i]::items.toList.drop (i+1):=by simp[fG,Cq]
  obtain this:=hQ Fh (by refine AD (show i+(n+1)=i+1+n by exact AM 0x111110120033121030034 rfl) ?_;exact Yw) (Ki.trans Lq);rw[hd,fU]at this;exact this
theorem Ag3(hh:A.handled=none)(ht:s.heap.IsList t items)
 (hQ:∀h',W_ s.heap.objs.size s.heap h'->Q items.toList {s with heap:=h'}):Aq (A7 prog w) A (unpackItems (.ref t) items.size none) Q E s:=by
 have Cq:t≠s.heap.objs.size:=by(apply AI ht;try clear ht;intro o AR;obtain ho:=AR.1;clear AR;try clear ht);exact G3 (EF ho)
 unfold unpackItems;apply Ae
 ·unfold notIterableAtAll;refine Ae (bj ht.typeIs slot_list_iter.lookup ?_);apply BN;simp only[Mc,if_false];refine Ae (F9 (bZ ht ?_));refine Ae (F9 (iO Cq items.size 0 _ _ ⟨_,(AO (Dx _ rfl) rfl rfl)⟩ (ht.push _) (Ah 73014444592 rfl) λC8 Q8 Ki=>?_));have NB:List.take items.size (List.drop 0 items.toList)=items.toList:=by
   refine AD List.drop_zero ?_;exact Tj (by simp)
  refine AD NB<|AD (if_neg (by simp)) ?_
  obtain ZC:=(ht.push _).extBut Ki.extBut Cq;refine Ae (F9 (ba hh Q8 ZC (by simp) λFh Yq=>?_));simp only[Option.isSome_none,Mc,if_false];refine BN (hQ Fh λb o hb e=>Yq b o hb (Ki.extBut b o hb (DD _ e)))
end
section
variable{X:Cx}{V:Hp}{m:Lc}
theorem AY4(h:JZ X elts CY V m Q)(hl:(Iq elts X.env).length=CY.length)
 (hf:fJ (λx=>x.1) (Iq elts X.env)=none):TA X (.Tuple elts k pos) (.lst CY) V m Q:=λs D v hs hv=>by
 simp only[AZ]at hv;(refine A1 hv λa xs n Af=>?_;obtain K5:=Af.1;obtain na:=Af.2.1;obtain g:=Af.2.2.1;obtain r:=Af.2.2.2;clear Af;try clear hv;subst K5);obtain IG:(Iq elts X.env).length=xs.size:=by refine AG hl<|AG r.length ?_;simp
 refine AD (arm_assign_Tuple ..)<|Ae (J_ ?_)
 unfold unpack;refine AD IG<|AD hf ?_
 refine Ae (F9 (Ag3 hs.ok.1 ⟨_,(AO g rfl ⟨n,rfl⟩)⟩ λh' ex=>?_));obtain kp:=λa o e=>ex a o (λz=>by rw[z]at e;exact CO e (FA _)) e;obtain st:=Step.grow kp;obtain Cy:=hs.next (hs.rs.grow kp) st;exact Bz (h {s with heap:=h'} D xs.toList Cy (st.F8 hs.rs (λZ q=>q.elim) r)) (λZ A8 p=>AW.trans (AJ:={s with heap:=h'}) hs st.Hn ⟨rfl,rfl,rfl⟩ p) λZ Z x=>x
end
theorem AZ8{k:Nat}{names:List AV}{Q:Res->Hp->Lc->Prop}
 (hw:(∀x∈names,X.env.kindOf x=some .local)->X.env.scope.kind=.function->PW [.Tuple elts k J1] Bv X.env=pure none)
 (hn:∀x∈names,BG m x=true/\X.C.contains x=false)
 (h:TR X VR (Ab Bv X.env) V m λv V m=>TA X (.Tuple elts k J1) v V m λV m=>Q .next V m)
 (FH:pJ [.Tuple elts k J1] Bv pos.line X.env=pure false):
 TR X RF (Cj (.Assign [.Tuple elts k J1] Bv pos) X.env) V m Q:=λs D hs=>by
 obtain Kj:=hw (λx hx=>by
  obtain this:=hs.kd x (hn x hx).1;rw[(hn x hx).2]at this;exact this) hs.fr.kind
 exact pf h FH Kj s D hs
structure eu(P:Fu)(c:AU)(name:AV)(f:AU):Prop where
 reads:readsIn (KK P) c (.type "type")=true
 find:findCls (KK P) (.ref c) (.type "type") name=some (.val (.ref f))
 spec:specialIn (KK P) (.ref c) "__getattribute__"=some (some (.builtin "type.__getattribute__"))
 keep:Lw (KK P) (.ref f)=true
structure W9(P:Fu)(c:AU)(name:AV)(v:Ap):Prop where
 get:Vd (KK P) c name=true
 dict:Q2 (KK P) c=true
 find:KZ (KK P) (.ref c) name=some (some v)
 AJ9:specialIn (KK P) v "__get__"=some none
 handed:handedIn v=true
 wg:copiedNames.contains name=false
section
variable{X:Cx}{V:Hp}{m:Lc}
theorem Ac1(g:TM X.w.params x c)(gm:eu X.w.params c name f)(hx:X.G.contains x=true)(hn:n<=X.n)
 (h:TR X AY (F7 (Dl pos (Cr args X.env))) V m λvs V m=>Ag X.w X.h₀ n f vs V λv V=>Q v V m)
 (he:LO X args pos) (hd:(x==("__debug__":AV))=false)
 (hm:Ab (.Call (.Attribute (.Name x np) name apos) args [] pos) X.env=(do
  let ov<-Ab (.Name x np) X.env;JE apos.atName;let(f,first)<-Jl [ov] (YV ov name (do return (<-ZJ (.Name x np) X.env).getD true));Qc pos f first (Dl pos (Cr args X.env)) [])):TR X VR (Ab (.Call (.Attribute (.Name x np) name apos) args [] pos) X.env) V m Q:=λs D hs=>by
 refine fW (Zu hs hx g.name ?_ hd) hm;refine method_cls hs.KI gm.spec (cls_value hs.KI gm.reads gm.find rfl ?_)
 refine Bz (Qd (Q:=Q) (s:={s with toks:=s.toks+1}) (mf:=[]) (first:=[]) hs (KP.of gm.keep) (by simp only[BD]) (TR.mono h λvs V m q s D ws h1 h2=>?_) he) (λa Dp p=>?_) λZ Z z=>z
 ·exact Bz (Ag.call q (h1.ok.le hn) h1.bs h1.rs h2) (λv s' p=>AW.aB h1 p) λZ Z z=>z
 ·exact AW.trans (AJ:={s with toks:=s.toks+1}) hs Step.refl ⟨rfl,rfl,rfl⟩ p
theorem nQ(i:EI V a c ks vs)(g:W9 X.w.params c name v)(nk:name∉ks)
 (hv:∀D h,RS X.w X.h₀ D h V->BS X.w X.h₀->VR X.w D h mv v) (q:Q mv V m):KR X (λo=>Ud o name true) a V m Q:=by
 intro s D u hs hu
 (refine Bc (i.at hs.rs hu) λp d es n A9=>?_;obtain Nk:=A9.1;obtain h1:=A9.2.1;obtain h2:=A9.2.2.1;obtain ak:=A9.2.2.2.1;obtain r:=A9.2.2.2.2;clear A9;subst Nk)
 exact get_value hs.KI (od:=some (Iv es n)) ⟨h1,rfl,rfl,h2⟩ (aO g.get).1 (findObj_cls g.dict g.find g.AJ9 g.handed g.wg (by rw[mK,gJ ak nk])) g.handed (AW.here hs (hv _ _ hs.rs hs.bs) q)
end
theorem zZ(P):eu P 458 "__init__" 385:=⟨rfl,rfl,rfl,rfl⟩
theorem yw(P):TM P "Matcher" 458:=⟨rfl,rfl⟩
end Mine.Internal
set_option genCtorIdx false
namespace Mine.Internal
structure Stop(p:Prop):Prop where
 go:p
theorem AA(h:p):Stop p:=⟨h⟩
structure CW where
 w:CE
 h:BU
structure Fr where
 n:Nat
 G:List AV
 C:List AV
 B:List Nat:=[]
noncomputable abbrev cx(c:CW)(f:Fr)(A:Hx)(env:FX):Cx:=⟨c.w,c.h,f.n,A,env,f.G,f.C⟩
inductive Out where
 |v (x:MV)|b (t:Bool)|r (x:Res)|l (x:Res)|u
inductive Mf where
 |ev (e:Expr)|val (v:MV)|ts (e:Expr)|tv (b:Bool)|al (op:BoolOp) (es:List Expr)|ar (es:List Expr)|vs (l:List MV)|pt (o:Option Expr)|po (k:Option Int)
 |st (s:E5)|ss (l:List E5)|res (r:Res)|asg (t:Expr) (v:MV)|LS (ts:List Expr) (vs:List MV)|un
inductive Co where
 |b1 (op:XX) (r:Expr)|b2 (op:XX) (a:MV)|c1 (op:JR) (r:Expr)|c2 (op:JR) (a:MV)|t1 (op:JR) (r:Expr)|t2 (op:JR) (a:MV)
 |Xu (t:Bool) (o1:JR) (r1:Expr) (o2:JR) (r2:Expr)|Qf (t:Bool) (o1:JR) (a:MV) (o2:JR) (r2:Expr)|OO (t:Bool) (b:MV) (o2:JR) (r2:Expr)
 |nt|an (es:List Expr)|or (es:List Expr)|av (es:List Expr)|aw (es:List Expr)|ie (a b:Expr)|a1 (es:List Expr)|a2 (v:MV)|tu|li|cf (x:AV)
 |m1 (name:AV) (es:List Expr)|m2 (t:Bool) (a:MV) (es:List Expr)|m3 (t:Bool) (f:AU) (a:MV)|m4 (id:String) (a:MV)|cm (f:AU)|Vu (slice:Expr)|a_ (a:MV)
 |aa (t:Bool) (lo hi:Option Expr)|af (t:Bool) (a:MV) (hi:Option Expr)|aj (t:Bool) (a:MV) (lo:Option Int)|rv|pa|at(name:AV)|tb
 |sq (AN:List E5)|if(a b:List E5)|ret|nx|sn (x:AV)|Vs (o i:Expr)|ao (v:MV) (i:Expr)|aq (v a:MV)|Vn (o:Expr) (attr:AV)|aX (v:MV) (attr:AV)
 |ta (A4:Expr)|sw (names:List AV)|ur|more (ts:List Expr) (vs:List MV)|ag (x:AV) (i:Int)|wh (body orelse:List E5)|bd|fr (body:List E5)
 |fo (A4:Expr) (body orelse:List E5)|lc (Av A4:Expr) (ifs:List Expr) (scope:E4)|ci (Av:Expr)|ps
inductive f_ where
 |op (op:XX) (a b:MV)|cmp (op:JR) (a b:MV)|sub (a b:MV)|sl (t:Bool) (a:MV) (lo hi:Option Int)|rev (a:MV)|attr (name:AV) (a:MV)|Jr (name:AV) (a:MV)
 |fn (k:Nat) (f:AU) (l:List MV)|bi (v:Ap) (l:List MV)|list (l:List MV)|dict|put (a i v:MV)|Vo (a:MV) (name:AV) (v:MV)
inductive Mv where
 |go (x:Mf) (s:List Co) (V:Hp) (m:Lc)|stop (x:f_) (s:List Co) (V:Hp) (m:Lc)|IS (b:Bool) (x y:Mf) (s t:List Co) (V:Hp) (m:Lc)
 |out (o:Out) (V:Hp) (m:Lc)|EK (e:Expr) (s:List Co) (V:Hp) (m:Lc)|E_ (x:E5) (s:List Co) (V:Hp) (m:Lc)
 |bV (t:Expr) (b o:List E5) (s:List Co) (V:Hp) (m:Lc)|for (v:MV) (t:Expr) (b o:List E5) (s:List Co) (V:Hp) (m:Lc)
 |comp (v:MV) (Av A4:Expr) (ifs:List Expr) (scope:E4) (s:List Co) (V:Hp) (m:Lc)|aL (r:Res) (s:List Co) (V:Hp) (m:Lc)|bad
noncomputable def MC(x:AV):Bool:=!(x==("__debug__":AV))&&!(x==("__classdict__":AV))
noncomputable def noStar:List Expr->Bool
 |[]=>true
 |e::r=>ek e != 8&&noStar r
noncomputable def PI(e:Expr):Bool:=ek e==1||ek e==2||ek e==3
noncomputable def isName(e:Expr):Bool:=ek e==1
noncomputable def NT(e:Expr):Bool:=ek e != 5&&ek e != 6&&ek e != 7
noncomputable def ME(e:Expr):Bool:=ek e==1||ek e==2||ek e==3||ek e==4
noncomputable def aQ(e:Expr):Bool:=ek e==1||ek e==2||ek e==3||ek e==4||ek e==5
noncomputable def isTup(e:Expr):Bool:=ek e==9
noncomputable def L8(e:Expr):Option AV:=(nE e).map (·.1)
noncomputable def RG:Expr->Option Int
 | .Constant (.int i) _ _=>some i
 |_=>none
noncomputable def ZL(lo hi:Option Expr)(e:Expr):Bool:=match lo,hi with
 |none,none=>match e with
  | .UnaryOp .USub x _=>decide (RG x=some 1)
  |_=>false
 |_,_=>false
noncomputable def Oc:List (AV×AU):=[("check_steps",73),("check_range",80),("step_size",87),("Trail",123),("Ways",158),("least",170),("price_of",177),("slot_of",184),("FlatPrice",216),("Counts",244),("counts_of",255),("need_unit",262),("log_units",269),
 ("SymbolPrices",291),("LearntPrice",325),("PlaceRow",367),("Finder",501),("TreeFinder",549),("LayeredFinder",582),("finder_for",592),("_law_box",599),("_law_take",606),("_law_text",611),("_law_price",618),("_law_told",625),("_law_borders",632),
 ("_law_rungs",639),("_law_edges",646),("_law_costs",651),("_law_reached",656),("_law_part_right",663),("_law_joined_right",668)]
noncomputable def Ue:List (AV×Int):=[("LEAST_MATCH",2),("MOST_UNIT",1024),("NOWHERE",-1)]
noncomputable def Ka:List (AV×Ap):=[("len",.builtin "len"),("max",.builtin "max"),("min",.builtin "min"),("range",.type "range"),("sum",.builtin "sum"),("sorted",.builtin "sorted"),("bytes",.type "bytes"),("list",.type "list"),("dict",.type "dict")]
noncomputable def Ep{α:Type}:List (AV×α)->AV->Option α
 |[],_=>none
 |(y,a)::r,x=>if y=x then some a else Ep r x
theorem Qx:(∀{α:Type}(x:AV),Ep ([]:List (AV×α)) x=Tz)/\(∀{α:Type}(x y:AV)(a:α)(r:List (AV×α)),Ep ((y,a)::r) x=if y=x then Im a else Ep r x):=⟨by intros;rfl,by intros;rfl⟩
noncomputable def AF6:List (AU×Nat):=[(73,1),(80,1),(87,1),(101,1),(123,2),(148,2),(155,2),(158,2),(170,12),(177,4),(184,1),(199,1),(206,1),(213,2),(216,2),(234,1),(241,2),(244,2),(255,4),(262,1),(269,1),(281,2),(288,1),(291,3),(308,4),(315,2),(322,2),(325,5),(343,1),(350,1),(357,2),(364,2),(367,2),(385,1),(413,1),(427,1),(434,1),(477,3),(484,3),(491,3),(498,4),(501,4),(518,3),(525,1),(532,3),(539,2),(546,2),(549,4),(565,5),(572,7),(579,7),(582,6),(592,7),(599,1),(606,1),(611,2),(618,6),(625,13),(632,1),(639,1),(646,4),(651,1),(656,1),(663,14),(668,14),(673,15)]
noncomputable def lvl(f:Fr)(a:AU):Option Nat:=match AF6.lookup a with
 |some k=>if Mq k f.n=true then some k else none
 |none=>some f.n
noncomputable def X5:List AV:=["put","enter","every","literal","match"]
noncomputable def Xk(k:Int):Option String:=if k=0 then some "list.append" else if k=1 then some "list.pop" else if k=2 then some "list.index" else if k=3 then some "dict.get" else if k=4 then some "int.bit_length" else none
noncomputable def boolOf:MV->Option Bool
 | .bool b=>some b
 |_=>none
noncomputable def intOf:MV->Option Int
 | .int i=>some i
 |_=>none
noncomputable def bN:MV->Option (List MV)
 | .tup l=>some l
 |_=>none
noncomputable def i2(a b:MV):Option (Int×Int):=match intOf a with
 |some x=>match intOf b with
  |some y=>some (x,y)
  |none=>none
 |none=>none
noncomputable def RN(a b:MV):Option Bool:=match b with
 | .none=>match a with
  | .none=>some true
  | .int _=>some false
  |_=>none
 |_=>none
noncomputable def M3(op:JR)(a b:MV):Option Bool:=match op with
 | .Eq=>match i2 a b with
  |some (x,y)=>some (x==y)
  |none=>none
 | .NotEq=>match i2 a b with
  |some (x,y)=>some (x != y)
  |none=>none
 | .Lt=>match i2 a b with
  |some (x,y)=>some (decide (x<y))
  |none=>none
 | .LtE=>match i2 a b with
  |some (x,y)=>some (decide (x<=y))
  |none=>none
 | .Gt=>match i2 a b with
  |some (x,y)=>some (decide (y<x))
  |none=>none
 | .GtE=>match i2 a b with
  |some (x,y)=>some (decide (y<=x))
  |none=>none
 | .Is=>RN a b
 | .IsNot=>(RN a b).map not
 |_=>none
noncomputable def aD(op:XX)(a b:MV):Option MV:=match op with
 | .Add=>match i2 a b with
  |some (x,y)=>some (.int (x+y))
  |none=>none
 | .Sub=>match i2 a b with
  |some (x,y)=>some (.int (x-y))
  |none=>none
 |_=>none
noncomputable def GQ(scope:E4)(k:JW):List AV:=(scope.names.filter λx=>x.2==k).map (·.1)
noncomputable def nodup:List AV->Bool
 |[]=>true
 |x::r=>!(r.contains x)&&nodup r
theorem AJ8:(nodup []=TC)/\(∀BE r,nodup (BE::r)=(!r.contains BE&&nodup r)):=⟨by intros;rfl,by intros;rfl⟩
noncomputable def MK(scope:E4):Bool:=scope.kind==.function&&(scope.names.all λx=>x.2 != .local||scope.names.lookup x.1==some .local)&&(scope.names.all λx=>x.2 != .cell)&&nodup (freeOf scope)&&nodup (GQ scope .local)&&
 ((GQ scope .local).all λx=>scope.names.lookup x==some .local)&&((freeOf scope).all λx=>scope.names.lookup x==some .free)&&((GQ scope .globalImplicit).all λx=>scope.names.lookup x==some .globalImplicit)
noncomputable def M7(f:Fr)(m:Lc)(scope:E4):Bool:=(freeOf scope).all λx=>BG m x&&f.C.contains x
noncomputable def SD(f:Fr)(scope:E4):Fr:=⟨f.n,GQ scope .globalImplicit,freeOf scope,[]⟩
noncomputable def gd(b:Bool)(x y:Mv):Mv:=match b with
 |true=>x
 |false=>y
noncomputable def og{α:Type}(o:Option α)(x:α->Mv)(y:Mv):Mv:=match o with
 |some a=>x a
 |none=>y
noncomputable def U7(f:Fr)(m:Lc)(o:Expr)(name:AV):Bool:=decide (L8 o=some "Matcher")&&f.G.contains "Matcher"&&decide (name="__init__")
noncomputable def AX0(f:Fr)(e:Expr)(s:List Co)(V:Hp)(m:Lc):Mv:=
 match e with
 | .Constant v k p=>match v with
  | .int i=>.go (.val (.int i)) s V m
  | .none=>.go (.val .none) s V m
  | .bool b=>.go (.val (.bool b)) s V m
  | .str x=>.go (.val (.str x)) s V m
  |v=>.EK (.Constant v k p) s V m
 | .Name x p=>gd (MC x) (og (CT m x) (λv=>.go (.val v) s V m) (gd (f.G.contains x) (og (Ep Ue x) (λi=>.go (.val (.int i)) s V m) (.EK (.Name x p) s V m)) (.EK (.Name x p) s V m))) (.EK (.Name x p) s V m)
 | .UnaryOp op x p=>match op with
  | .USub=>og (RG x) (λi=>.go (.val (.int (-i))) s V m) (.EK (.UnaryOp .USub x p) s V m)
  |op=>.EK (.UnaryOp op x p) s V m
 | .BinOp l op r _=>.go (.ev l) (.b1 op r::s) V m
 | .Compare l ops rs p=>match ops,rs with
  |[op],[r]=>gd (QY op r) (.EK (.Compare l [op] [r] p) s V m) (.go (.ev l) (.c1 op r::s) V m)
  |[o1,o2],[r1,r2]=>gd (RT [o1,o2] [r1,r2]) (.EK (.Compare l [o1,o2] [r1,r2] p) s V m) (.go (.ev l) (.Xu false o1 r1 o2 r2::s) V m)
  |ops,rs=>.EK (.Compare l ops rs p) s V m
 | .IfExp t a b _=>.go (.ts t) (.ie a b::s) V m
 | .BoolOp op es p=>match op,es with
  | .And,x::y::r=>.go (.ev x) (.av (y::r)::s) V m
  |op,es=>.EK (.BoolOp op es p) s V m
 | .Tuple es k p=>gd (noStar es) (.go (.ar es) (.tu::s) V m) (.EK (.Tuple es k p) s V m)
 | .List es p=>gd (noStar es) (.go (.ar es) (.li::s) V m) (.EK (.List es p) s V m)
 | .Dict ks vs p=>match ks,vs with
  |[],[]=>.stop .dict s V m
  |ks,vs=>.EK (.Dict ks vs p) s V m
 | .Subscript v sl p=>match sl with
  | .Slice lo hi none _=>.go (.ev v) (.aa (isName v) lo hi::s) V m
  | .Slice lo hi (some st) p'=>gd (isName v&&ZL lo hi st) (.go (.ev v) (.rv::s) V m) (.EK (.Subscript v (.Slice lo hi (some st) p') p) s V m)
  |sl=>.go (.ev v) (.Vu sl::s) V m
 | .Attribute v a p=>gd (PI v) (.go (.ev v) (.at a::s) V m) (.EK (.Attribute v a p) s V m)
 | .Call g es ks p=>match ks with
  |[]=>match g with
   | .Name x q=>gd (noStar es&&MC x&&f.G.contains x&&((Ep Oc x).isSome||(Ep Ka x).isSome)) (.go (.ar es) (.cf x::s) V m) (.EK (.Call (.Name x q) es [] p) s V m)
   | .Attribute o name q=>gd (U7 f m o name&&noStar es&&decide (es.length<9)&&(q.endLine==p.line)) (.go (.ar es) (.cm 385::s) V m)<|gd (noStar es&&PI o&&decide (es.length<9)&&(q.endLine==p.line)) (.go (.ev o) (.m1 name es::s) V m) (.EK (.Call (.Attribute o name q) es [] p) s V m)
   |g=>.EK (.Call g es [] p) s V m
  |ks=>.EK (.Call g es ks p) s V m
 | .ListComp Av g scope p=>match g with
  |[]=>.EK (.ListComp Av [] scope p) s V m
  |⟨A4,iter,ifs,a⟩::r=>gd (r.isEmpty&&decide (a=0)&&MK scope&&M7 f m scope&&ME iter) (.go (.ev iter) (.lc Av A4 ifs scope::s) V m) (.EK (.ListComp Av (⟨A4,iter,ifs,a⟩::r) scope p) s V m)
 |e=>.EK e s V m
noncomputable def stepT(e:Expr)(s:List Co)(V:Hp)(m:Lc):Mv:=
 match e with
 | .Compare l ops rs _=>match ops,rs with
  |[op],[r]=>gd (QY op r) .bad (.go (.ev l) (.t1 op r::s) V m)
  |[o1,o2],[r1,r2]=>gd (RT [o1,o2] [r1,r2]) .bad (.go (.ev l) (.Xu true o1 r1 o2 r2::s) V m)
  |_,_=>.bad
 | .UnaryOp op x _=>match op with
  | .Not=>.go (.ts x) (.nt::s) V m
  |_=>.bad
 | .BoolOp op es _=>.go (.al op es) s V m
 |e=>gd (ME e) (.go (.ev e) (.tb::s) V m) .bad
noncomputable def AX4(v:MV)(x:Co)(s:List Co)(V:Hp)(m:Lc):Mv:=
 match x with
 | .b1 op r=>.go (.ev r) (.b2 op v::s) V m
 | .b2 op a=>og (aD op a v) (λx=>.go (.val x) s V m) (.stop (.op op a v) s V m)
 | .c1 op r=>.go (.ev r) (.c2 op v::s) V m
 | .c2 op a=>og (M3 op a v) (λb=>.go (.val (.bool b)) s V m) (.stop (.cmp op a v) s V m)
 | .t1 op r=>.go (.ev r) (.t2 op v::s) V m
 | .t2 op a=>og (M3 op a v) (λb=>.go (.tv b) s V m) (.stop (.cmp op a v) (.tb::s) V m)
 | .Xu t o1 r1 o2 r2=>.go (.ev r1) (.Qf t o1 v o2 r2::s) V m
 | .Qf t o1 a o2 r2=>og (M3 o1 a v) (λb=>.go (.tv b) (.OO t v o2 r2::s) V m) (.stop (.cmp o1 a v) (.tb::.OO t v o2 r2::s) V m)
 | .av es=>og (boolOf v) (λb=>.go (.tv b) (.aw es::s) V m) .bad
 | .a1 es=>.go (.ar es) (.a2 v::s) V m
 | .Vu sl=>.go (.ev sl) (.a_ v::s) V m
 | .a_ a=>.stop (.sub a v) s V m
 | .aa t lo hi=>.go (.pt lo) (.af t v hi::s) V m
 | .rv=>.stop (.rev v) s V m
 | .pa=>og (intOf v) (λi=>.go (.po (some i)) s V m) .bad
 | .at name=>.stop (.attr name v) s V m
 | .m1 name es=>.stop (.Jr name v) (.m2 (X5.contains name) v es::s) V m
 | .m2 t a es=>match v with
  | .ref f=>.go (.ar es) (.m3 t f a::s) V m
  | .int k=>og (Xk k) (λid=>.go (.ar es) (.m4 id a::s) V m) .bad
  |_=>.bad
 | .tb=>og (boolOf v) (λb=>.go (.tv b) s V m) .bad
 | .ret=>.go (.res (.ret v)) s V m
 | .nx=>.go (.res .next) s V m
 | .sn x=>gd (BG m x) (.go (.res .next) s V (DS m x v)) .bad
 | .Vs o i=>.go (.ev o) (.ao v i::s) V m
 | .ao w i=>.go (.ev i) (.aq w v::s) V m
 | .aq w a=>.stop (.put a v w) (.nx::s) V m
 | .Vn o attr=>.go (.ev o) (.aX v attr::s) V m
 | .aX w attr=>.stop (.Vo v attr w) (.nx::s) V m
 | .ta t=>.go (.asg t v) (.ur::s) V m
 | .sw names=>og (bN v) (λCY=>gd (CY.length==names.length&&names.all (λx=>BG m x)) (.go (.res .next) s V (Vt names.reverse CY.reverse m)) .bad) .bad
 | .ag x i=>og (intOf v) (λj=>gd (BG m x) (.go (.res .next) s V (DS m x (.int (i+j)))) .bad) .bad
 | .fo t b o=>.for v t b o s V m
 | .lc Av t ifs scope=>.comp v Av t ifs scope s V m
 |_=>.bad
noncomputable def AW9(b:Bool)(x:Co)(s:List Co)(V:Hp)(m:Lc):Mv:=
 match x with
 | .nt=>.go (.tv (!b)) s V m
 | .an es=>match es with
  |[]=>.go (.tv b) s V m
  |es=>.IS b (.al .And es) (.tv false) s s V m
 | .or es=>match es with
  |[]=>.go (.tv b) s V m
  |es=>.IS b (.tv true) (.al .Or es) s s V m
 | .aw es=>match es with
  |[]=>.bad
  |[z]=>.IS b (.ev z) (.val (.bool false)) s s V m
  |z::r=>.IS b (.ev z) (.val (.bool false)) (.av r::s) s V m
 | .ie x y=>.IS b (.ev x) (.ev y) s s V m
 | .if x y=>.IS b (.ss x) (.ss y) s s V m
 | .OO t w o2 r2=>match t with
  |true=>.IS b (.ev r2) (.tv false) (.t2 o2 w::s) s V m
  |false=>.IS b (.ev r2) (.val (.bool false)) (.c2 o2 w::s) s V m
 | .wh x y=>.IS b (.ss x) (.ss y) (.bd::s) s V m
 | .ci x=>.IS b (.ev x) (.tv false) s s V m
 |_=>.bad
noncomputable def AX1(f:Fr)(l:List MV)(x:Co)(s:List Co)(V:Hp)(m:Lc):Mv:=
 match x with
 | .a2 v=>.go (.vs (v::l)) s V m
 | .tu=>gd (Mq l.length 1000) (.go (.val (.tup l)) s V m) .bad
 | .li=>gd (Mq l.length 1000) (.stop (.list l) s V m) .bad
 | .cf x=>og (Ep Oc x) (λa=>og (lvl f a) (λk=>.stop (.fn k a l) s V m) .bad) (og (Ep Ka x) (λv=>.stop (.bi v l) s V m) .bad)
 | .m3 t g a=>match t with
  |true=>.stop (.fn f.n g (a::l)) s V m
  |false=>og (lvl f g) (λk=>.stop (.fn k g (a::l)) s V m) .bad
 | .m4 id a=>.stop (.bi (.builtin id) (a::l)) s V m
 | .cm g=>og (lvl f g) (λk=>.stop (.fn k g l) s V m) .bad
 |_=>.bad
noncomputable def AX2(r:Res)(x:Co)(s:List Co)(V:Hp)(m:Lc):Mv:=
 match x with
 | .sq AN=>match r with
  | .next=>.go (.ss AN) s V m
  |r=>.go (.res r) s V m
 | .bd=>.out (.l r) V m
 | .ps=>.aL r s V m
 |_=>.bad
noncomputable def AX3(f:Fr)(x:E5)(s:List Co)(V:Hp)(m:Lc):Mv:=
 match x with
 | .Assign ts v p=>match ts with
  |[t]=>match t with
   | .Name x q=>gd (NT v) (.go (.ev v) (.sn x::s) V m) (match v with
    | .ListComp Av g scope cp=>match g with
     |[]=>.E_ (.Assign [.Name x q] (.ListComp Av [] scope cp) p) s V m
     |⟨A4,iter,ifs,a⟩::r=>gd (r.isEmpty&&decide (a=0)&&MK scope&&M7 f m scope&&ME iter&&(BG m x&&(f.C.contains x||(q.line==cp.line&&!(scope.names.any λy=>y.1==x&&(y.2==.local||y.2==.cell))))))
      (.go (.ev iter) (.lc Av A4 ifs scope::.sn x::s) V m) (.E_ (.Assign [.Name x q] (.ListComp Av (⟨A4,iter,ifs,a⟩::r) scope cp) p) s V m)
    |v=>.E_ (.Assign [.Name x q] v p) s V m)
   | .Subscript o i _=>.go (.ev v) (.Vs o i::s) V m
   | .Attribute o a _=>.go (.ev v) (.Vn o a::s) V m
   | .Tuple es k q=>match v with
    | .Tuple vs k2 q2=>gd ((es.filterMap (GW es)).all λx=>BG m x&&!f.C.contains x) (og (Na es vs) (λo=>match o with
     |none=>.go (.ev (.Tuple vs k2 q2)) (.ta (.Tuple es k q)::s) V m
     |some names=>.go (.ev (.Tuple vs k2 q2)) (.sw names::s) V m)
     (.E_ (.Assign [.Tuple es k q] (.Tuple vs k2 q2) p) s V m)) (.E_ (.Assign [.Tuple es k q] (.Tuple vs k2 q2) p) s V m)
    |v=>gd (NT v) (.go (.ev v) (.ta (.Tuple es k q)::s) V m) (.E_ (.Assign [.Tuple es k q] v p) s V m)
   |t=>.E_ (.Assign [t] v p) s V m
  |ts=>.E_ (.Assign ts v p) s V m
 | .Return e _=>match e with
  |some e=>.go (.ev e) (.ret::s) V m
  |none=>.go (.res (.ret .none)) s V m
 | .Pass _=>.go (.res .next) s V m
 | .Break _=>.go (.res .brk) s V m
 | .Expr e p=>gd (NT e) (.go (.ev e) (.nx::s) V m) (.E_ (.Expr e p) s V m)
 | .If t a b _=>.go (.ts t) (.if a b::s) V m
 | .While t b o _=>.bV t b o s V m
 | .For t i b o p=>gd (aQ i) (.go (.ev i) (.fo t b o::s) V m) (.E_ (.For t i b o p) s V m)
 | .AugAssign t op v p=>match t,op with
  | .Name x q,.Add=>gd (MC x) (og ((CT m x).bind intOf) (λi=>.go (.ev v) (.ag x i::s) V m) (.E_ (.AugAssign (.Name x q) .Add v p) s V m)) (.E_ (.AugAssign (.Name x q) .Add v p) s V m)
  |t,op=>.E_ (.AugAssign t op v p) s V m
 |x=>.E_ x s V m
noncomputable def Zx:MV->Option (List MV)
 | .tup l=>some l
 | .lst l=>some l
 |_=>none
noncomputable def AW8(t:Expr)(v:MV)(s:List Co)(V:Hp)(m:Lc):Mv:=
 match t with
 | .Name x _=>gd (BG m x) (.go .un s V (DS m x v)) .bad
 | .Tuple es _ _=>gd (noStar es) (og (Zx v) (λvs=>gd (es.length==vs.length) (.go (.LS es vs) s V m) .bad) .bad) .bad
 |_=>.bad
noncomputable def step(f:Fr)(x:Mf)(s:List Co)(V:Hp)(m:Lc):Mv:=
 match x with
 | .ev e=>AX0 f e s V m
 | .val v=>match s with
  |[]=>.out (.v v) V m
  |x::s=>AX4 v x s V m
 | .ts e=>stepT e s V m
 | .tv b=>match s with
  |[]=>.out (.b b) V m
  |x::s=>AW9 b x s V m
 | .al op es=>match op,es with
  | .And,[]=>.go (.tv true) s V m
  | .And,e::es=>.go (.ts e) (.an es::s) V m
  | .Or,[]=>.go (.tv false) s V m
  | .Or,e::es=>.go (.ts e) (.or es::s) V m
 | .ar es=>match es with
  |[]=>.go (.vs []) s V m
  |e::es=>.go (.ev e) (.a1 es::s) V m
 | .vs l=>match s with
  |[]=>.bad
  |x::s=>AX1 f l x s V m
 | .pt o=>match o with
  |none=>.go (.po none) s V m
  |some e=>.go (.ev e) (.pa::s) V m
 | .po k=>match s with
  | .af t a hi::s=>.go (.pt hi) (.aj t a k::s) V m
  | .aj t a lo::s=>.stop (.sl t a lo k) s V m
  |_=>.bad
 | .st x=>AX3 f x s V m
 | .ss l=>match l with
  |[]=>.go (.res .next) s V m
  |x::l=>.go (.st x) (.sq l::s) V m
 | .res r=>match s with
  |[]=>.out (.r r) V m
  |x::s=>AX2 r x s V m
 | .asg t v=>AW8 t v s V m
 | .LS ts vs=>match ts,vs with
  |[],[]=>.go .un s V m
  |t::ts,v::vs=>.go (.asg t v) (.more ts vs::s) V m
  |_,_=>.bad
 | .un=>match s with
  |[]=>.out .u V m
  | .ur::s=>.go (.res .next) s V m
  | .more ts vs::s=>.go (.LS ts vs) s V m
  | .fr body::s=>.go (.ss body) (.bd::s) V m
  |_=>.bad
def H6(b:Bool)(p q:Prop):Prop:=if b=true then p else q
def ask(c:CW)(x:f_)(V:Hp)(K:MV->Hp->Prop):Prop:=
 match x with
 | .op o a b=>∀X m,BO X (HX o) a b V m λv AE m'=>m'=m/\K v AE
 | .cmp o a b=>∀X m,BO X (DZ o) a b V m λv AE m'=>m'=m/\K v AE
 | .sub a b=>∀X m Bv slice,LN slice->BO X (J0 Bv slice) a b V m λv AE m'=>m'=m/\K v AE
 | .sl t a lo hi=>NN lo/\NN hi/\((t=true/\∃l,B_ V a l/\l.length<=100000/\K (.lst (A3 l lo hi)) V)\/∃l,a=.bytes l/\l.length<=100000/\K (.bytes (A3 l lo hi)) V)
 | .rev a=>∃l,B_ V a l/\l.length<=100000/\K (.lst l.reverse) V
 | .attr name a=>∀X m,KR X (λo=>Ud o name true) a V m λv AE m'=>m'=m/\K v AE
 | .Jr name a=>(∃c' ks vs f,EI V a c' ks vs/\name∉ks/\(∀P,GM P c' name f)/\K (.ref f) V)\/∃T id k,LF T name id/\Xk k=some id/\(∀X m,IsT X V m a T)/\K (.int k) V
 | .fn k f l=>Ag c.w c.h k f l V K
 | .bi v l=>∀X m,Dk X v l V m λv AE m'=>m'=m/\K v AE
 | .list l=>K (.lst l) V\/∀a,¬foot V a->K (.ref a) (V.set a (.list l))
 | .dict=>(∀d,¬foot V d->K (.ref d) (V.set d (.di [])))\/∀d,¬foot V d->K (.ref d) (V.set d (.dp []))
 | .put a i v=>∀X m,JY X a i v V m λAE m'=>m'=m/\K .none AE
 | .Vo a name v=>∃x c' d ks vs,a=.ref x/\V x=some (.inst c' d ks vs)/\(∀P,GS P c' name)/\ks.length<=100/\K .none (V.set x (.inst c' d (DY ks name) (Ds ks vs name v)))
noncomputable abbrev Rn:=Mf->List Co->Hp->Lc->(Out->Hp->Lc->Prop)->Prop
def V'(I:Nat->Hp->Lc->Prop)(n:Nat)(K:Res->Hp->Lc->Prop)(o:Out)(V:Hp)(m:Lc):Prop:=
 match o with
 | .l .next=>∃k,k<n/\I k V m
 | .l .cont=>∃k,k<n/\I k V m
 | .l .brk=>K .next V m
 | .l (.ret v)=>K (.ret v) V m
 | .r r=>K r V m
 |_=>False
def Xf(R:Rn)(t:Expr)(b o:List E5)(V:Hp)(m:Lc)(K:Res->Hp->Lc->Prop):Prop:=
 ∃I n,I n V m/\∀n V m,I n V m->R (.ts t) [.wh b o] V m (V' I n K)
def Qq(I:List MV->Hp->Lc->Prop)(AN:List MV)(K:Res->Hp->Lc->Prop)(o:Out)(V:Hp)(m:Lc):Prop:=
 match o with
 | .l .next=>I AN V m
 | .l .cont=>I AN V m
 | .l .brk=>K .next V m
 | .l (.ret v)=>K (.ret v) V m
 |_=>False
def R6(K:Res->Hp->Lc->Prop)(o:Out)(V:Hp)(m:Lc):Prop:=
 match o with
 | .r r=>K r V m
 |_=>False
def TK(R:Rn)(v:MV)(t:Expr)(b o:List E5)(V:Hp)(m:Lc)(K:Res->Hp->Lc->Prop):Prop:=
 ∃items P,FF v V items P/\∃I,(∀mv AN V m,I (mv::AN) V m->P V)/\(∀V m,I [] V m->P V)/\I items V m/\
  (∀mv AN V m,I (mv::AN) V m->R (.asg t mv) [.fr b] V m (Qq I AN K))/\∀V m,I [] V m->R (.ss o) [] V m (R6 K)
noncomputable def UD(t:Expr)(v:MV):Option (List (AV×MV)):=match t with
 | .Name x _=>some [(x,v)]
 | .Tuple es _ _=>match es with
  |[a,b]=>match v with
   | .tup [u,w]=>match L8 a,L8 b with
    |some x,some y=>some [(y,w),(x,u)]
    |_,_=>none
   |_=>none
  |_=>none
 |_=>none
noncomputable def IA(b:List (AV×MV))(f:AV->Option MV)(x:AV):Option MV:=match Ep b x with
 |some v=>some v
 |none=>f x
def UP(l:List MV)(I:List MV->List MV->Hp->Prop)(AN:List MV)(o:Out)(V:Hp)(_:Lc):Prop:=
 match o with
 | .v v=>l.length<=100000/\I AN (l++[v]) V
 | .b false=>I AN l V
 |_=>False
@[reducible]noncomputable def N3(R:Rn)(Av:Expr)(ifs:List Expr)(V:Hp)(m:Lc)(K:Out->Hp->Lc->Prop):Prop:=match ifs with
 |[]=>R (.ev Av) [] V m K
 |[t]=>R (.ts t) [.ci Av] V m K
 |_=>False
def N2(R:Rn)(v:MV)(Av A4:Expr)(ifs:List Expr)(ls fs:List AV)(V:Hp)(m:Lc)(K:MV->Hp->Prop):Prop:=
 ∃items P,FF v V items P/\∃I,(∀mv AN l V,I (mv::AN) l V->P V)/\(∀l V,I [] l V->P V)/\I items [] V/\
  (∀mv AN l V f,I (mv::AN) l V->∃b,UD A4 mv=some b/\(b.all λx=>ls.contains x.1)=true/\N3 R Av ifs V (C9 ls (IA b f) fs m) (UP l I AN))/\∀l V,I [] l V->∀a,¬foot V a->Cv K (.ref a) (V.set a (.list l))
def fin(c:CW)(R:Fr->Rn)(f:Fr)(K:Out->Hp->Lc->Prop):Mv->Prop
 | .go x s V m=>R f x s V m K
 | .stop q s V m=>Stop (ask c q V λv AE=>R f (.val v) s AE m K)
 | .IS b x y s t V m=>Stop (H6 b (R f x s V m K) (R f y t V m K))
 | .out o V m=>K o V m
 | .EK e s V m=>Stop (∀A env,TR (cx c f A env) VR (Ab e env) V m λv AE m'=>m'=m/\R f (.val v) s AE m K)
 | .E_ x s V m=>Stop (∀A env,TR (cx c f A env) RF (Cj x env) V m λr AE m'=>R f (.res r) s AE m' K)
 | .bV t b o s V m=>Stop (Xf (R f) t b o V m λr AE m'=>R f (.res r) s AE m' K)
 | .for v t b o s V m=>Stop (TK (R f) v t b o V m λr AE m'=>R f (.res r) s AE m' K)
 | .comp v Av t ifs scope s V m=>Stop (N2 (R (SD f scope)) v Av t ifs (GQ scope .local) (freeOf scope) V m λv AE=>R f (.val v) s AE m K)
 | .aL r s V m=>Stop (R f (.res r) s V m K)
 | .bad=>False
noncomputable def AT5:E5->Nat
 | .Assign _ _ p=>p.line
 | .If _ _ _ p=>p.line
 | .Expr _ p=>p.line
 | .Return _ p=>p.line
 |_=>0
noncomputable def KX(f:Fr):Mf->Bool
 | .st x=>f.B.contains (AT5 x)
 |_=>false
def run(c:CW):Nat->Fr->Mf->List Co->Hp->Lc->(Out->Hp->Lc->Prop)->Prop
 |0,_,_,_,_,_,_=>False
 |n+1,f,x,s,V,m,K=>match KX f x with
  |true=>Stop (∃AE m',Fz AE m' V m/\fin c (run c n) f K (step f x (.ps::s) AE m'))
  |false=>fin c (run c n) f K (step f x s V m)
end Mine.Internal
set_option genCtorIdx true
namespace Mine.Internal
section
variable{X:Cx}{α β:Type}{R:CE->(AU->Prop)->BU->β->α->Prop}{V:Hp}{m:Lc}{D:AU->Prop}{s:Bq}
theorem AW.mono(h:AW X R D s V Q a s')(k:∀b V m,Q b V m->Q' b V m):AW X R D s V Q' a s':=
 h.elim λb h=>h.elim λV h=>h.elim λm h=>h.elim λD h=>(Ar b V m D (An h.1 h.2.1 h.2.2.1 h.2.2.2.1 (k _ _ _ h.2.2.2.2)))
theorem Pg(h:Aq (A7 BJ X.w) A t (AW X R D s V Q) Dr s)(k:∀b V m,Q b V m->Q' b V m):Aq (A7 BJ X.w) A t (AW X R D s V Q') Dr s:=
 Bz h (λZ Z p=>p.mono k) λZ Z x=>x
variable{Q Q':MV->Hp->Lc->Prop}(k:∀b V m,Q b V m->Q' b V m)
include k
theorem BO.mono(h:BO X t a b V m Q):BO X t a b V m Q':=λs D u v x y z=>Pg (h s D u v x y z) k
theorem KR.mono(h:KR X t a V m Q):KR X t a V m Q':=λs D u x y=>Pg (h s D u x y) k
theorem Dk.mono(h:Dk X t a V m Q):Dk X t a V m Q':=λs D u x y=>Pg (h s D u x y) k
end
theorem JY.mono(k:∀V m,Q V m->Q' V m)(h:JY X a b v V m Q):JY X a b v V m Q':=λs D u w x y z z' z2=>Pg (h s D u w x y z z' z2) λZ=>k
theorem TA.mono(h:TA X t v V m Q)(k:∀V m,Q V m->Q' V m):TA X t v V m Q':=λs D u x y=>Pg (h s D u x y) λZ=>k
theorem JZ.mono(h:JZ X t v V m Q)(k:∀V m,Q V m->Q' V m):JZ X t v V m Q':=λs D u x y=>Pg (h s D u x y) λZ=>k
theorem Ag.AH2(e:Mq k n=true)(h:Ag w h₀ k f args V Q):Ag w h₀ n f args V Q:=λA s D vs a=>h A s D vs (a.le (QJ e))
theorem Ag.up'(e:k<=n)(h:Ag w h₀ k f args V Q):Ag w h₀ n f args V Q:=λA s D vs a=>h A s D vs (a.le e)
def Le(n:Nat)(P:Nat->Prop):Prop:=∃k,k<n/\P k
theorem Le.mk(h:k<n)(p:P k):Le n P:=⟨k,⟨h,p⟩⟩
theorem Le.up(h:Le k P)(p:k<=n):Le n P:=AI h λj h=>⟨j,⟨(G1 h.1 p),h.2⟩⟩
section
variable{c:CW}{R:Fr->Rn}{f:Fr}{K:Out->Hp->Lc->Prop}{G:Prop}
theorem Dn(h:fin c R f K (gd b x y))(k1:b=true->fin c R f K x->G)(k2:b=false->fin c R f K y->G):G:=by
 cases b
 ·exact k2 rfl h
 ·exact k1 rfl h
theorem Fl{α:Type}{o:Option α}{x:α->Mv}(h:fin c R f K (og o x y))(k1:∀a,o=some a->fin c R f K (x a)->G)(k2:o=none->fin c R f K y->G):G:=by
 cases o
 ·exact k2 rfl h
 ·exact k1 _ rfl h
theorem oV{n:Nat}{G:Prop}(h:run c (n+1) f x s V m K)(k1:KX f x=true->∀AE m',Fz AE m' V m->fin c (run c n) f K (step f x (.ps::s) AE m')->G)(k2:KX f x=false->fin c (run c n) f K (step f x s V m)->G):G:=by
 have h:(match KX f x with|true=>Stop (∃AE m',Fz AE m' V m/\fin c (run c n) f K (step f x (.ps::s) AE m'))|false=>fin c (run c n) f K (step f x s V m)):=h;revert h k1 k2;cases KX f x
 ·exact λZ k h=>k rfl h
 ·exact λk Z h=>(Stop.go h).elim λAE h=>h.elim λm' h=>k rfl AE m' h.1 h.2
theorem oW(h1:KX f x=true->∃AE m',Fz AE m' V m/\fin c (run c n) f K (step f x (.ps::s) AE m'))(h2:KX f x=false->fin c (run c n) f K (step f x s V m)):run c (n+1) f x s V m K:=by
 show(match KX f x with|true=>Stop (∃AE m',Fz AE m' V m/\fin c (run c n) f K (step f x (.ps::s) AE m'))|false=>fin c (run c n) f K (step f x s V m));revert h1 h2;cases KX f x
 ·exact λZ h=>h rfl
 ·exact λh Z=>AA (h rfl)
theorem D4(h:(a&&b)=true):a=true/\b=true:=by cases a<;>cases b<;>first|exact⟨rfl,rfl⟩|exact fT h
theorem HE{α:Type}{x:α}{G:Prop}(h:none=some x):G:=nomatch h
theorem RK{a:MV}{i:Int}(h:intOf a=some i):a=.int i:=by cases a with
 |int j=>exact AD (Au h) rfl
 |_=>exact HE h
theorem Xm{a:MV}{i:Bool}(h:boolOf a=some i):a=.bool i:=by cases a with
 |bool j=>exact AD (Au h) rfl
 |_=>exact HE h
theorem Z8{e:Expr}{x:AV}(h:L8 e=some x):∃p,e=.Name x p:=by cases e with
 |Name y p=>exact⟨p,congrArg (TH · p) (Au h)⟩
 |_=>exact HE h
theorem lQ{e:Expr}{i:Int}(h:RG e=some i):∃k p,e=.Constant (.int i) k p:=by cases e with
 |Constant v k p=>cases v with
  |int j=>exact⟨k,p,by exact AD (Au h) rfl⟩
  |_=>exact HE h
 |_=>exact HE h
theorem Ag1{a:MV}{i:List MV}(h:bN a=some i):a=.tup i:=by cases a with
 |tup l=>rw[Au h]
 |_=>exact HE h
theorem AG9{i:List MV}(h:Zx a=some i):a=.tup i\/a=.lst i:=by cases a with
 |tup l=>exact .inl (AD (Au h) rfl)
 |lst l=>exact .inr (AD (Au h) rfl)
 |_=>exact HE h
theorem Ls{α:Type}{g:Int->Int->α}{a b:MV}{z:α}(e:(match i2 a b with|some (x,y)=>some (g x y)|none=>none)=some z):∃i j,a=.int i/\b=.int j/\z=g i j:=by
 unfold i2 at e;cases e1:intOf a with
 |none=>rw[e1]at e;exact nS e
 |some i=>
  cases e2:intOf b with
  |none=>rw[e1,e2]at e;exact nS e
  |some j=>rw[e1,e2]at e;(obtain zI:=Au e;subst zI);exact(Aj i j (AO (RK e1) (RK e2) rfl))
end
noncomputable abbrev Ks:=Out->Hp->Lc->Prop
structure T6(c:CW)(n:Nat):Prop where
 ev:∀{f A env e s V m}{K:Ks},run c n f (.ev e) s V m K->TR (cx c f A env) VR (Ab e env) V m λv AE m'=>m'=m/\Le n λk=>run c k f (.val v) s AE m K
 ts:∀{f A env e s V m}{K:Ks},run c n f (.ts e) s V m K->TR (cx c f A env) RB (Fv e env (Ab e env)) V m λv AE m'=>m'=m/\Le n λk=>run c k f (.tv v) s AE m K
 al:∀{f A env op es s V m}{K:Ks},run c n f (.al op es) s V m K->TR (cx c f A env) RB (LR op es env) V m λv AE m'=>m'=m/\Le n λk=>run c k f (.tv v) s AE m K
 ar:∀{f A env es s V m pos}{K:Ks},noStar es=true->run c n f (.ar es) s V m K->TR (cx c f A env) AY (F7 (Dl pos (Cr es env))) V m λv AE m'=>m'=m/\Le n λk=>run c k f (.vs v) s AE m K
 pt:∀{f A env o s V m}{K:Ks},run c n f (.pt o) s V m K->TR (cx c f A env) OG (Qn o env) V m λv AE m'=>m'=m/\Le n λk=>run c k f (.po v) s AE m K
 st:∀{f A env x s V m}{K:Ks},run c n f (.st x) s V m K->TR (cx c f A env) RF (Cj x env) V m λr AE m'=>Le n λk=>run c k f (.res r) s AE m' K
 ss:∀{f A env l s V m}{K:Ks},run c n f (.ss l) s V m K->TR (cx c f A env) RF (Fy l env) V m λr AE m'=>Le n λk=>run c k f (.res r) s AE m' K
 asg:∀{f A env t v s V m}{K:Ks},run c n f (.asg t v) s V m K->TA (cx c f A env) t v V m λAE m'=>Le n λk=>run c k f .un s AE m' K
 LS:∀{f A env ts vs s V m}{K:Ks},noStar ts=true->run c n f (.LS ts vs) s V m K->JZ (cx c f A env) ts vs V m λAE m'=>Le n λk=>run c k f .un s AE m' K
section
variable{c:CW}{f:Fr}{A:Hx}{env:FX}{s:List Co}{V:Hp}{m:Lc}{K:Ks}{n:Nat}
theorem Le.elim{G:Prop}(h:Le n P)(z:P 0->False)(k:∀j,j+1<n->P (j+1)->G):G:=AI h λj h=>by
 cases j with
 |zero=>exact(z h.2).elim
 |succ j=>exact k j h.1 h.2
theorem L_(h:noStar (e::r)=true):noStar r=true/\∀env,Cr (e::r) env=(false,Ab e env)::Cr r env:=by
 cases e<;>first|exact⟨h,λZ=>rfl⟩|exact absurd (D4 h).1 Ed
theorem VL(h:noStar (e::r)=true):noStar r=true/\∀env,Iq (e::r) env=(false,G6 e env)::Iq r env:=by
 cases e<;>first|exact⟨h,λZ=>rfl⟩|exact absurd (D4 h).1 Ed
theorem gT:∀{r},noStar r=true->(Dl pos (Cr r env)).any (·.1)=false
 |[],_=>rfl
 |e::r,h=>by refine AD ((L_ h).2 ..) ?_;exact gT (L_ h).1
theorem Vc(h:noStar es=true):LO X es pos:=λe r z=>by subst z;exact⟨(L_ h).2 _,gT (L_ h).1⟩
theorem QW{env}:∀{r},noStar r=true->(Iq r env).length=r.length/\fJ (λx=>x.1) (Iq r env)=none
 |[],_=>⟨rfl,rfl⟩
 |e::r,h=>by
  obtain z:=QW (env:=env) (VL h).1;refine AD ((VL h).2 ..)<|⟨congrArg (·+1) z.1,by refine AG (List.findIdx?_cons)<|AD z.2 ?_;rfl⟩
theorem Rr(h:NT v=true)(t)(l)(env):HJ v t l env=pure false:=by
 cases v<;>first|rfl|exact absurd h Ed
theorem mh(h:isName v=true)(o)(r):VE v o r=pure ():=by
 cases v<;>first|rfl|exact absurd h Ed
end
theorem AY6{Bv lo hi p o i T id Q}(hT:s.TypeIs o T)
 (hl:V4 (.type T) "__getitem__"=pure (some (.builtin id))) (h:Aq M A (getItem o i) Q E s) (ht:∀r,VE Bv o r=pure ()):Aq M A (J0 Bv (.Slice lo hi none p) o i) Q E s:=by
 unfold J0;refine Ae<|AD (getitemInPython_of_ne hT.not_modules)<|Ae (bj hT hl ?_)
 have fin:Aq M A (subscripted (.Slice lo hi none p) false o i) (λr Dp=>Aq M A (VE Bv o r>>=λZ=>pure r) Q E Dp) E s:=
  wpAny_operating (Bz h (λr Dp Oy=>Ae (IX (ht r) (BN Oy))) λZ Z x=>x)
 first
  |exact BN (Ae fin)
  |exact Ae (BN (Ae fin))
  |exact Ae fin
section
variable{X:Cx}{V:Hp}{m:Lc}
theorem hU(h:NN k)(d)(hd:min d n=d):k.elim d (clipAt n)=min (k.elim d KN) n:=by
 cases k with
 |none=>exact hd.symm
 |some x=>exact wJ (h x rfl)
theorem Ac7{Bv lower upper p pos Q}
 (h:TR X VR (Ab Bv X.env) V m λa V m=>TR X OG (Qn lower X.env) V m λlo V m=>TR X OG (Qn upper X.env) V m λhi V m=>NN lo/\NN hi/\
  ((isName Bv=true/\∃l,B_ V a l/\l.length<=100000/\Q (.lst (A3 l lo hi)) V m)\/∃l,a=.bytes l/\l.length<=100000/\Q (.bytes (A3 l lo hi)) V m)):
 TR X VR (Ab (.Subscript Bv (.Slice lower upper none p) pos) X.env) V m Q:=λs D hs=>by
 refine uk (TR.go h hs λv AJ mv Ad m₁ Ac h1 h2 h3 h4 h5=>wpAny_Slice (TR.go h5 h1 λu A8 lo Dq m₂ Bk g1 g2 g3 g4 g5=>TR.go g5 g1 λx Dp hi Gd Hk Fq k1 k2 k3 k4 k5=>BN ?_));obtain Yb:=k2.vr g1.rs g1.DT (g2.vr h1.rs h1.DT h4);refine Bz (Q:=AW X VR Fq Dp Gd Q) ?_ (λZ GX p=>AW.trans (AJ:=Dp) hs ((h2.trans hs.rs.live g2).trans hs.rs.live k2) ((h3.trans g3).trans k3) p) λZ Z x=>x;refine k5.2.2.elim (λz=>?_) λz=>?_
 ·refine z.2.elim λl z'=>?_;(refine A1 (z'.1.at k1.rs Yb) λq xs n AR=>?_;obtain C4:=AR.1;obtain g:=AR.2.1;obtain r:=AR.2.2;clear AR;subst C4);obtain hlen:=r.length;obtain⟨a1,b1⟩:=k1.push (s:=Dp) {cls:=.type "slice",data:=.fields #[u,x,.none]};obtain⟨a2,b2⟩:=a1.push (s:={Dp with heap:=Dp.heap.push {cls:=.type "slice",data:=.fields #[u,x,.none]}}) {cls:=.type "list",data:=.seq (PN xs lo hi none)};obtain hL:Dp.heap.IsList q xs:=⟨_,(AO g rfl ⟨n,rfl⟩)⟩;refine AY6 (T:="list") ((hL.push _).typeIs) AF8 (Aj5 (hL.push _) (sV ..) g4 k4 .none (by simp) ?_ (by refine AD JC ?_;simp at hlen;exact So z'.2.1 hlen)) (λr=>mh z.1 _ r);refine AD (N4 ..)<|AW.next (t:=Dp.toks) k1 a2.rs (b1.trans k1.rs.live b2) ?_ z'.2.2
  simp only[AZ];refine(BK _ (PN xs lo hi none) 0 (BR rfl ?_ ?_ ?_))
  ·obtain this:=MA a1.rs;rwa[N4]at this
  ·obtain this:=Dx (Dp.heap.push {cls:=.type "slice",data:=.fields #[u,x,.none]}) (o:={cls:=.type "list",data:=.seq (PN xs lo hi none)}) rfl;rwa[N4]at this
  ·refine AD (show(PN xs lo hi none).toList=Internal.A3 xs.toList lo hi by rw[kms_pick_eq,AE0 _ _ _ k5.1 k5.2.1])<|b2.F8 a1.rs (λZ q=>q.elim) (b1.F8 k1.rs (λZ q=>q.elim) (r.A3 lo hi))
 ·(refine AI z λl AX=>?_;obtain Cs:=AX.1;obtain hz:=AX.2.1;obtain q:=AX.2.2;clear AX;try clear z;subst Cs);simp only[AZ]at h4;(refine Ao h4 λb t Ai=>?_;obtain Eb:=Ai.1;obtain Ex:=Ai.2;clear Ai;try clear h4;subst Eb;subst Ex);(refine AI (oR k1) λmr A2=>?_;obtain F:=A2.1;obtain kk:=A2.2;clear A2);refine KBc.slice_K F (gK _ _) rfl g4 k4 (WT hz) (λh' t' k F' N' e=>?_) (by with_unfolding_all rfl) (λr=>by cases Bv<;>rfl);(obtain cK:=(kk (λZ=>False) h' F' N' (λZ z=>z.elim));obtain z1:=cK.1;obtain z2:=cK.2.1;obtain z3:=cK.2.2);refine(Ar _ Gd Hk _ (An z1 z2 ⟨rfl,rfl,rfl⟩ ?_ q));simp only[AZ];refine(Aj _ t' ⟨rfl,?_⟩);refine AG e<|AD (hU k5.1 0 (Nat.zero_min _))<|AD (hU k5.2.1 _ (Nat.min_self _)) ?_
  exact oB _ _ _
end
theorem TR.nx{α β:Type}{R:CE->(AU->Prop)->BU->β->α->Prop}{t:EG α}{n:Nat}{P:β->Hp->Nat->Prop}{Q:β->Hp->Lc->Prop}(h:TR X R t V m λv AE m'=>m'=m/\Le n (P v AE))
 (z:∀v AE,P v AE 0->False) (k:∀v AE j,j+1<n->P v AE (j+1)->Q v AE m):TR X R t V m Q:=h.mono λv AE m' q=>by cases q.1;exact q.2.elim (z v AE) λj a b=>k v AE j a b
theorem TR.I'{α β:Type}{R:CE->(AU->Prop)->BU->β->α->Prop}{t:EG α}{n:Nat}{P:β->Hp->Lc->Nat->Prop}{Q:β->Hp->Lc->Prop}(h:TR X R t V m λv AE m'=>Le n (P v AE m'))
 (z:∀v AE m',P v AE m' 0->False) (k:∀v AE m' j,j+1<n->P v AE m' (j+1)->Q v AE m'):TR X R t V m Q:=h.mono λv AE m' q=>q.elim (z v AE m') λj a b=>k v AE m' j a b
section
variable{c:CW}{f:Fr}{A:Hx}{env:FX}{s:List Co}{V:Hp}{m:Lc}{K:Ks}{n j:Nat}
theorem AO2(e:aD op a b=some x)(q:Q x V m):BO X (HX op) a b V m Q:=by
 cases op with
 |Add=>(refine Ao (Ls (a:=a) (b:=b) (g:=λx y=>MV.int (x+y)) (show(match i2 a b with|some (x,y)=>some (MV.int (x+y))|none=>none)=some x from e)) λi j AR=>?_;refine DF AR λC4 K5 Cs=>?_;clear AR;subst C4;subst K5;(try clear e;subst Cs));exact AK5 q
 |Sub=>(refine Ao (Ls (a:=a) (b:=b) (g:=λx y=>MV.int (x-y)) (show(match i2 a b with|some (x,y)=>some (MV.int (x-y))|none=>none)=some x from e)) λi j Ai=>?_;refine DF Ai λEb Ex Hv=>?_;clear Ai;subst Eb;subst Ex;(try clear e;subst Hv));exact AL9 q
 |_=>exact nS e
theorem Xx(e:M3 op a b=some x)(q:Q (.bool x) V m):BO X (DZ op) a b V m Q:=by
 have no:∀{y},RN a b=some y->(a=.none/\b=.none/\y=true)\/∃i,a=.int i/\b=.none/\y=false:=λ{y} e=>by
  cases b with
  |none=>cases a<;>cases e<;>first|exact .inl (AO rfl rfl rfl)|exact .inr ⟨_,(AO rfl rfl rfl)⟩
  |_=>exact nS e
 cases op with
 |Eq=>(refine Ao (Ls (a:=a) (b:=b) (g:=λx y=>x==y) (show(match i2 a b with|some (x,y)=>some (x==y)|none=>none)=some x from e)) λi j BC=>?_;obtain K4:=BC.1;obtain Ht:=BC.2.1;obtain JK:=BC.2.2;clear BC;subst K4;subst Ht;subst JK);exact vQ q
 |NotEq=>(refine Ao (Ls (a:=a) (b:=b) (g:=λx y=>x != y) (show(match i2 a b with|some (x,y)=>some (x != y)|none=>none)=some x from e)) λi j Bj=>?_;obtain JL:=Bj.1;obtain Hu:=Bj.2.1;obtain JM:=Bj.2.2;clear Bj;subst JL;subst Hu;subst JM);exact vd q
 |Lt=>(refine Ao (Ls (a:=a) (b:=b) (g:=λx y=>decide (x<y)) (show(match i2 a b with|some (x,y)=>some (decide (x<y))|none=>none)=some x from e)) λi j Bt=>?_;obtain JN:=Bt.1;obtain Sd:=Bt.2.1;obtain Ak9:=Bt.2.2;clear Bt;subst JN;subst Sd;subst Ak9);exact vc q
 |LtE=>(refine Ao (Ls (a:=a) (b:=b) (g:=λx y=>decide (x<=y)) (show(match i2 a b with|some (x,y)=>some (decide (x<=y))|none=>none)=some x from e)) λi j Ec=>?_;obtain Se:=Ec.1;obtain Sf:=Ec.2.1;obtain bw:=Ec.2.2;clear Ec;subst Se;subst Sf;subst bw);exact vb q
 |Gt=>(refine Ao (Ls (a:=a) (b:=b) (g:=λx y=>decide (y<x)) (show(match i2 a b with|some (x,y)=>some (decide (y<x))|none=>none)=some x from e)) λi j Hw=>?_;obtain Sg:=Hw.1;obtain Al0:=Hw.2.1;obtain b7:=Hw.2.2;clear Hw;subst Sg;subst Al0;subst b7);exact vW q
 |GtE=>(refine Ao (Ls (a:=a) (b:=b) (g:=λx y=>decide (y<=x)) (show(match i2 a b with|some (x,y)=>some (decide (y<=x))|none=>none)=some x from e)) λi j Nm=>?_;obtain Al2:=Nm.1;obtain b8:=Nm.2.1;obtain b9:=Nm.2.2;clear Nm;subst Al2;subst b8;subst b9);exact vV q
 |Is=>
  rcases no e with⟨rfl,rfl,rfl⟩|⟨i,rfl,rfl,rfl⟩
  ·exact vZ q
  ·exact va q
 |IsNot=>
  have e:(RN a b).map not=some x:=e;cases e2:RN a b with
  |none=>rw[e2]at e;exact nS e
  |some y=>
   rw[e2]at e;(obtain zI:=Au e;subst zI);rcases no e2 with⟨rfl,rfl,rfl⟩|⟨i,rfl,rfl,rfl⟩
   ·exact vh q
   ·exact vi q
 |_=>exact nS e
theorem AO3(h:run c (j+1) f (.val b) (.b2 op a::s) V m K)(hj:j<n):
 BO (cx c f A env) (HX op) a b V m λv AE m'=>m'=m/\Le n λk=>run c k f (.val v) s AE m K:=
 Fl (o:=aD op a b) h (λx e h=>AO2 e ⟨rfl,.mk hj h⟩) λe h=>BO.mono (λv AE m' q=>⟨q.1,.mk hj q.2⟩) (Stop.go h (cx c f A env) m)
theorem gf(h:run c (j+1) f (.val b) (.c2 op a::s) V m K)(hj:j<n):
 BO (cx c f A env) (DZ op) a b V m λv AE m'=>m'=m/\Le n λk=>run c k f (.val v) s AE m K:=
 Fl (o:=M3 op a b) h (λx e h=>Xx e ⟨rfl,.mk hj h⟩) λe h=>BO.mono (λv AE m' q=>⟨q.1,.mk hj q.2⟩) (Stop.go h (cx c f A env) m)
def Tv(c:CW)(f:Fr)(n:Nat)(s:List Co)(m:Lc)(K:Ks)(v:MV)(V:Hp):Prop:=∃k,v=.bool k/\Le n λj=>run c j f (.tv k) s V m K
theorem bG(h:run c j f (.val v) (.tb::s) V m K)(hj:j<=n):Tv c f n s m K v V:=by
 cases j with
 |zero=>exact h.elim
 |succ j=>exact Fl (o:=boolOf v) h (λk e h=>⟨k,⟨(Xm e),(.mk (G1 (CP j) hj) h)⟩⟩) λe h=>h.elim
theorem pM(h:run c (j+1) f (.val b) (.t2 op a::s) V m K)(hj:j<n):
 BO (cx c f A env) (DZ op) a b V m λv AE m'=>m'=m/\Tv c f n s m K v AE:=
 Fl (o:=M3 op a b) h (λx e h=>Xx e ⟨rfl,⟨x,⟨rfl,(.mk hj h)⟩⟩⟩) λe h=>BO.mono (λv AE m' q=>⟨q.1,bG q.2 (D3 hj)⟩) (Stop.go h (cx c f A env) m)
theorem gv(h:run c (j+1) f (.val b) (.Qf t o1 a o2 r2::s) V m K)(hj:j<n):
 BO (cx c f A env) (DZ o1) a b V m λv AE m'=>m'=m/\Tv c f n (.OO t b o2 r2::s) m K v AE:=
 Fl (o:=M3 o1 a b) h (λx e h=>Xx e ⟨rfl,⟨x,⟨rfl,(.mk hj h)⟩⟩⟩) λe h=>BO.mono (λv AE m' q=>⟨q.1,bG q.2 (D3 hj)⟩) (Stop.go h (cx c f A env) m)
end
section
variable{c:CW}{f:Fr}{A:Hx}{env:FX}{s:List Co}{V:Hp}{m:Lc}{K:Ks}{n j:Nat}
theorem z0{α:Type}{g:α->Mf}:∀v AE,run c 0 f (g v) s AE m K->False:=λZ Z h=>h
theorem FC(h:Stop (H6 b (run c j f x s V m K) (run c j f y t V m K))):if b=true then run c j f x s V m K else run c j f y t V m K:=h.go
theorem NU(h:MC x=true):(x==("__debug__":AV))=false/\(x==("__classdict__":AV))=false:=by
 unfold MC at h;rw[KH,N1,N1]at h;exact h
theorem Qy{α:Type}{x a}:∀{l:List (AV×α)},Ep l x=some a->(x,a)∈l
 |(y,b)::r,h=>by
  simp only[Qx]at h;split at h
  ·rename_i e;(obtain zI:=Au h;subst zI);cases e;exact .head _
  ·exact .tail _ (Qy h)
theorem yz{x i}(h:Ep Ue x=some i):∃t,Jt (KK P) Ea x=some (some (.int i t)):=by
 obtain this:=Qy h;simp only[Ue,CH,Fe,or_false,fv]at this;rcases this with⟨rfl,rfl⟩|⟨rfl,rfl⟩|⟨rfl,rfl⟩<;>exact⟨_,rfl⟩
theorem yx(P):Oc.all (λx=>(match Jt (KK P) Ea x.1 with|some (some (.ref a))=>a==x.2|_=>false)&&Lw (KK P) (.ref x.2))=true:=by kernel_rfl
theorem AR3{o:Option (Option Ap)}{b:AU}(h:(match o with|some (some (.ref a))=>a==b|_=>false)=true):o=some (some (.ref b)):=by
 cases o with
 |none=>exact fT h
 |some o=>
  cases o with
  |none=>exact fT h
  |some v=>
   cases v with
   |ref a=>exact congrArg (λz=>some (some (Ja z))) (eq_of_beq h)
   |_=>exact fT h
theorem yy{P}{x:AV}{a:AU}(h:Ep Oc x=some a):TM P x a:=by
 obtain this:=Il.mp (yx P) _ (Qy h);rw[KH]at this;refine⟨?_,this.2⟩;exact AR3 this.1
theorem yi{x v}(h:Ep Ka x=some v):GB P x v:=by
 obtain this:=Qy h;simp only[Ka,CH,Fe,or_false,fv]at this;rcases this with⟨rfl,rfl⟩|⟨rfl,rfl⟩|⟨rfl,rfl⟩|⟨rfl,rfl⟩|⟨rfl,rfl⟩|⟨rfl,rfl⟩|⟨rfl,rfl⟩|⟨rfl,rfl⟩|⟨rfl,rfl⟩<;>exact⟨rfl,rfl,by decide⟩
theorem yh{x v}(h:Ep Ka x=some v):KP X v:=by
 obtain this:=Qy h;simp only[Ka,CH,Fe,or_false,fv]at this;rcases this with⟨rfl,rfl⟩|⟨rfl,rfl⟩|⟨rfl,rfl⟩|⟨rfl,rfl⟩|⟨rfl,rfl⟩|⟨rfl,rfl⟩|⟨rfl,rfl⟩|⟨rfl,rfl⟩|⟨rfl,rfl⟩<;>first|exact KP.builtin|exact KP.type
end
section
variable{c:CW}{f:Fr}{A:Hx}{env:FX}{s:List Co}{V:Hp}{m:Lc}{K:Ks}{n:Nat}
abbrev Dw(c:CW)(f:Fr)(n:Nat)(s:List Co)(K:Ks)(m:Lc):MV->Hp->Lc->Prop:=λv AE m'=>m'=m/\Le n λk=>run c k f (.val v) s AE m K
abbrev QO(c:CW)(f:Fr)(n:Nat)(s:List Co)(K:Ks)(m:Lc):Bool->Hp->Lc->Prop:=λv AE m'=>m'=m/\Le n λk=>run c k f (.tv v) s AE m K
variable(ih:∀k,k<n+1->T6 c k)
include ih
theorem Fi(h:run c n f (.ev e) s' V m K):TR (cx c f A env) VR (Ab e env) V m (Dw c f n s' K m):=(ih n (CP n)).ev h
theorem DP(h:Stop (∀A env,TR (cx c f A env) VR (Ab e env) V m λv AE m'=>m'=m/\run c n f (.val v) s AE m K)):TR (cx c f A env) VR (Ab e env) V m (Dw c f (n+1) s K m):=
 (h.go A env).mono λv AE m' q=>⟨q.1,.mk (CP n) q.2⟩
theorem OY{g:MV->Co}{y:Co}{Q:MV->MV->Hp->Lc->Prop}(h:run c n f (.ev l) (y::s) V m K)
 (hy:∀v k AE,run c (k+1) f (.val v) (y::s) AE m K->run c k f (.ev r) (g v::s) AE m K) (k:∀a b AE j,j<n->run c (j+1) f (.val b) (g a::s) AE m K->Q a b AE m):
 TR (cx c f A env) VR (Ab l env) V m λa AE m'=>TR (cx c f A env) VR (Ab r env) AE m' λb AE m'=>Q a b AE m':=
 (Fi ih h).nx (λZ Z z=>z) λa CC j hj h1=>((ih j (Ci hj)).ev (hy _ _ _ h1)).nx (λZ Z z=>z) λb Bf i hi h2=>k _ _ _ i (AQ 0x111310002201200329101220329 rfl hj hi) h2
theorem v5(h:Tv c f n (.OO false b o2 r2::s) m K v V):∃k,v=.bool k/\
 if k=true then TR (cx c f A env) VR (Ab r2 env) V m λd V m'=>BO (cx c f A env) (DZ o2) b d V m' (Dw c f (n+1) s K m)else(Dw c f (n+1) s K m) (.bool false) V m:=by
 obtain⟨k,rfl,h⟩:=h;refine⟨k,rfl,h.elim (λz=>z) λj hj h=>?_⟩;cases k with
 |true=>exact(((ih j (Ci hj)).ev (FC h)).nx (λZ Z z=>z) λd Bf i hi h2=>gf h2 (Sp hj hi))
 |false=>exact⟨rfl,.mk (Ci hj) (FC h)⟩
theorem vz(h:Tv c f n (.OO true b o2 r2::s) m K v V):∃k,v=.bool k/\
 if k=true then TR (cx c f A env) VR (Ab r2 env) V m λd V m'=>BO (cx c f A env) (DZ o2) b d V m' λw V m'=>∃k,w=.bool k/\QO c f (n+1) s K m k V m' else QO c f (n+1) s K m false V m:=by
 obtain⟨k,rfl,h⟩:=h;refine⟨k,rfl,h.elim (λz=>z) λj hj h=>?_⟩;cases k with
 |true=>exact(((ih j (Ci hj)).ev (FC h)).nx (λZ Z z=>z) λd Bf i hi h2=>BO.mono (λw AE m' q=>⟨q.2.choose,q.2.choose_spec.1,q.1,q.2.choose_spec.2.up (BX _)⟩) (pM (n:=n+1) h2 (Sp hj hi)))
 |false=>exact⟨rfl,.mk (Ci hj) (FC h)⟩
theorem AV0{e:Expr}(h:run c (n+1) f (.ts e) s V m K):TR (cx c f A env) RB (Fv e env (Ab e env)) V m (QO c f (n+1) s K m):=by
 have other:∀e,ME e=true->run c n f (.ev e) (.tb::s) V m K->TR (cx c f A env) RB (Fv e env (Ab e env)) V m (QO c f (n+1) s K m):=λe he h=>
  Af4 ((Fi ih h).mono λv AE m' q=>q.2.elim (λz=>z) λj hj h=>(by(refine AI (bG h (AM 0x11212103120030101200329 rfl hj)) λk Ai=>?_;obtain a:=Ai.1;obtain b:=Ai.2);exact⟨k,(AO a q.1 b)⟩)) (by cases e<;>first|rfl|exact absurd he Ed)
 cases e with
 |Compare l ops rs p=>
  match ops,rs,h with
  |[op],[r],h=>
   refine Dn (b:=QY op r) h (λe h=>h.elim) λe h=>?_
   ·exact Af3 (OY ih (g:=λv=>.t2 op v) h (λZ Z Z h=>h) λa b AE j hj h2=>BO.mono (λw AE m' q=>⟨q.2.choose,(AO q.2.choose_spec.1 q.1 (q.2.choose_spec.2.up (BX _)))⟩) (pM (n:=n+1) h2 (Ib hj))) e
  |[o1,o2],[r1,r2],h=>
   refine Dn (b:=RT [o1,o2] [r1,r2]) h (λe h=>h.elim) λe h=>?_
   ·exact Ad5 (OY ih (g:=λv=>.Qf true o1 v o2 r2) h (λZ Z Z h=>h) λa b AE j hj h2=>BO.mono (λw AE m' q=>by cases q.1;exact vz ih q.2) (gv h2 hj)) e
  |[],_,h=>exact h.elim
  |_::_::_::_,_,h=>exact h.elim
  |[_],[],h=>exact h.elim
  |[_],_::_::_,h=>exact h.elim
  |[_,_],[],h=>exact h.elim
  |[_,_],[_],h=>exact h.elim
  |[_,_],_::_::_::_,h=>exact h.elim
 |UnaryOp op x p=>
  cases op with
  |Not=>exact Ae7 (((ih n (CP n)).ts h).nx (λZ Z z=>z) λb AE j hj h=>⟨rfl,.mk (Ci hj) h⟩)
  |_=>exact(show False from h).elim
 |BoolOp op es p=>exact Aa5 (((ih n (CP n)).al h).mono λv AE m' q=>⟨q.1,q.2.up (Tq n)⟩)
 |Name x p=>exact other _ rfl h
 |Attribute v a p=>exact other _ rfl h
 |Subscript v a p=>exact other _ rfl h
 |Call g es ks p=>exact other _ rfl h
 |_=>exact(show False from h).elim
theorem AU2(h:run c (n+1) f (.al op es) s V m K):TR (cx c f A env) RB (LR op es env) V m (QO c f (n+1) s K m):=by
 cases op with
 |And=>
  cases es with
  |nil=>exact pk ⟨rfl,.mk (CP n) h⟩
  |cons e es=>
   refine Ad2 (((ih n (CP n)).ts (s:=.an es::s) h).nx (λZ Z z=>z) λb AE j hj h=>?_);cases es with
   |nil=>
    have h':run c j f (.tv b) s AE m K:=h;cases b with
    |true=>exact pk ⟨rfl,.mk (Ci hj) h'⟩
    |false=>exact⟨rfl,.mk (Ci hj) h'⟩
   |cons e2 es=>
    cases b with
    |true=>exact(((ih j (Ci hj)).al (FC h)).mono λv AE m' q=>⟨q.1,q.2.up (MU hj)⟩)
    |false=>exact⟨rfl,.mk (Ci hj) (FC h)⟩
 |Or=>
  cases es with
  |nil=>exact pz ⟨rfl,.mk (CP n) h⟩
  |cons e es=>
   refine Ae8 (((ih n (CP n)).ts (s:=.or es::s) h).nx (λZ Z z=>z) λb AE j hj h=>?_);cases es with
   |nil=>
    have h':run c j f (.tv b) s AE m K:=h;cases b with
    |true=>exact⟨rfl,.mk (Ci hj) h'⟩
    |false=>exact pz ⟨rfl,.mk (Ci hj) h'⟩
   |cons e2 es=>
    cases b with
    |true=>exact⟨rfl,.mk (Ci hj) (FC h)⟩
    |false=>exact(((ih j (Ci hj)).al (FC h)).mono λv AE m' q=>⟨q.1,q.2.up (MU hj)⟩)
theorem AU3(hn:noStar es=true)(h:run c (n+1) f (.ar es) s V m K):TR (cx c f A env) AY (F7 (Dl pos (Cr es env))) V m λv AE m'=>m'=m/\Le (n+1) λk=>run c k f (.vs v) s AE m K:=by
 cases es with
 |nil=>exact bK ⟨rfl,.mk (CP n) h⟩
 |cons e es=>
  exact pq ((Fi ih (s':=.a1 es::s) h).nx (λZ Z z=>z) λv AE j hj h=>((ih j (Ci hj)).ar (s:=.a2 v::s) (L_ hn).1 h).nx (λZ Z z=>z) λvs Bf i hi h=>⟨rfl,.mk (Sp hj hi) h⟩) ((L_ hn).2 _)
theorem AU7(h:run c (n+1) f (.pt o) s V m K):TR (cx c f A env) OG (Qn o env) V m λv AE m'=>m'=m/\Le (n+1) λk=>run c k f (.po v) s AE m K:=by
 cases o with
 |none=>exact Af0 ⟨rfl,.mk (CP n) h⟩
 |some e=>
  exact Af1 ((Fi ih (s':=.pa::s) h).nx (λZ Z z=>z) λv AE j hj h=>Fl (o:=intOf v) h (λi e h=>⟨i,(AO (RK e) rfl (.mk (Ci hj) h))⟩) λZ h=>h.elim)
theorem AU4(h:run c (n+1) f (.asg t v) s V m K):TA (cx c f A env) t v V m λAE m'=>Le (n+1) λk=>run c k f .un s AE m' K:=by
 cases t with
 |Name x p=>exact Dn (b:=BG m x) h (λe h=>PZ e (.mk (CP n) h)) λZ h=>h.elim
 |Tuple es k p=>
  refine Dn (b:=noStar es) h (λe h=>Fl (o:=Zx v) h (λvs e1 h=>Dn (b:=es.length==vs.length) h (λe2 h=>?_) λZ h=>h.elim) λZ h=>h.elim) λZ h=>h.elim;obtain q:=((ih n (CP n)).LS (A:=A) (env:=env) e h).mono λAE m' q=>q.up (Tq n);rcases AG9 e1 with rfl|rfl
  ·exact pN q ((QW e).1.trans (beq_iff_eq.mp e2)) (QW e).2
  ·exact AY4 q ((QW e).1.trans (beq_iff_eq.mp e2)) (QW e).2
 |_=>exact(show False from h).elim
theorem AU5(hn:noStar ts=true)(h:run c (n+1) f (.LS ts vs) s V m K):JZ (cx c f A env) ts vs V m λAE m'=>Le (n+1) λk=>run c k f .un s AE m' K:=by
 cases ts with
 |nil=>
  cases vs with
  |nil=>exact pP (.mk (CP n) h)
  |cons _ _=>exact(show False from h).elim
 |cons t ts=>
  cases vs with
  |nil=>exact(show False from h).elim
  |cons v vs=>
   exact bF (((ih n (CP n)).asg (s:=.more ts vs::s) h).mono λAE m' q=>q.elim (λz=>z) λj hj h=>((ih j (Ci hj)).LS (VL hn).1 h).mono λAE m' q=>q.up (MU hj)) ((VL hn).2 _)
end
theorem mY(ho:PI o=true)(ha:noStar args=true)(hl:args.length<9)(hp:(apos.endLine==pos.line)=true):
 Ab (.Call (.Attribute o name apos) args [] pos) env=(do
  let ov<-Ab o env;JE apos.atName;let(f,first)<-Jl [ov] (YV ov name (do return (<-ZJ o env).getD true));Qc pos f first (Dl pos (Cr args env)) []):=by
 obtain e1:vB o name env (Ab o env)=Ab o env:=by cases o<;>first|rfl|exact absurd ho Ed
 obtain e0:∀{r},noStar r=true->(Dl pos (Cr r env)).all (!·.1)=true:=λ{r}=>by
  induction r with
  |nil=>intro _;rfl
  |cons e r ih=>intro h;refine AD ((L_ h).2 ..) ?_;exact ih (L_ h).1
 have e2:AI1 (args.length+0) (Dl pos (Cr args env)) []=true:=by
  unfold AI1;refine AD (e0 ha) ?_;simp;exact Ah 0x1121ef2002920029 rfl hl
 obtain e3:Ab (.Call (.Attribute o name apos) args [] pos) env=(do
  let ov<-vB o name env (Ab o env);JE apos.atName;methodCall o name apos pos env ov (args.length+0) (Dl pos (Cr args env)) []):=rfl
 refine AG e3<|AD e1 ?_
 unfold methodCall methodCallPos;refine AD e2<|AD hp ?_
 rfl
section
variable{X:Cx}{V:Hp}{m:Lc}
theorem Ab9
 (h:TR X VR (Ab o X.env) V m λa V m=>(∃c ks vs f n,n<=X.n/\EI V a c ks vs/\name∉ks/\GM X.w.params c name f/\TR X AY (F7 (Dl pos (Cr args X.env))) V m λws V m=>Ag X.w X.h₀ n f (a::ws) V λv V=>Q v V m)\/
  ∃T id,LF T name id/\IsT X V m a T/\TR X AY (F7 (Dl pos (Cr args X.env))) V m λws V m=>Dk X (.builtin id) (a::ws) V m Q)
 (he:LO X args pos)
 (hm:Ab (.Call (.Attribute o name apos) args [] pos) X.env=(do
  let ov<-Ab o X.env;JE apos.atName;let(f,first)<-Jl [ov] (YV ov name (do return (<-ZJ o X.env).getD true));Qc pos f first (Dl pos (Cr args X.env)) [])):TR X VR (Ab (.Call (.Attribute o name apos) args [] pos) X.env) V m Q:=λs D hs=>by
 refine fW (TR.go h hs λv AJ mv Ad m₁ Ac h1 h2 h3 h4 h5=>?_) hm;rcases h5 with⟨c,ks,vs,f,n,hn,i,nk,gm,Q1⟩|⟨T,id,g,hT,Q1⟩
 ·(refine Bc (i.at h1.rs h4) λp d es k AR=>?_;obtain C4:=AR.1;obtain g1:=AR.2.1;obtain g2:=AR.2.2.1;obtain ak:=AR.2.2.2.1;obtain r:=AR.2.2.2.2;clear AR;subst C4);refine method_fn h1.KI (od:=some (Iv es k)) ⟨g1,rfl,rfl,g2⟩ (aO gm.get).1 (aO gm.get).2 gm.find (beq_iff_eq.mp gm.fn) (by show(lookIn name (Iv es k)).map _=_;refine AD (mK ..)<|AD (gJ ak nk) ?_;rfl) ?_;refine Bz (Qd (mf:=[mv]) (first:=[.ref p]) h1 (KP.of gm.keep) (by simp only[BD];exact⟨h4,trivial⟩) (TR.mono Q1 λvs V m q s D ws h1 h2=>?_) he) (λa Dp p=>AW.trans hs h2 h3 p) λZ Z z=>z;exact Bz (Ag.call q (h1.ok.le hn) h1.bs h1.rs h2) (λv s' p=>AW.aB h1 p) λZ Z z=>z
 ·obtain⟨t1,t2⟩:=hT AJ Ac v h1 h4;refine yu t1 g.plain g.slot g.ty t2<|Bz (Qd (mf:=[mv]) (first:=[v]) h1 KP.builtin (by simp only[BD];exact⟨h4,trivial⟩) (TR.mono Q1 λvs V m q s D ws h1 h2=>q s D ws h1 h2) he) (λa Dp p=>AW.trans hs h2 h3 p) λZ Z z=>z
end
theorem AZ6(F:CF scope ls fs G)
 (FH:X.env.kindOf x=some .local->X.env.scope.kind=.function->HJ (.ListComp Av [⟨A4,iter,ifs,0⟩] scope pos) (some (TH x px)) pos'.line X.env=pure true) (hx:BG m x=true/\X.C.contains x=false)
 (Ke:∀x∈fs,BG m x=true/\X.C.contains x=true)
 (h:Me X scope ls fs G Av A4 iter ifs V m λl V m=>BG m x=true/\∀a,¬foot V a->Cv (λv V=>Q .next V (DS m x v)) (.ref a) (V.set a (.list l)))
 (Hg:∀x,Jf iter X.env x=pure x):TR X RF (Cj (.Assign [.Name x px] (.ListComp Av [⟨A4,iter,ifs,0⟩] scope pos) pos') X.env) V m Q:=λs D hs=>by
 obtain hk:=hs.kd x hx.1;rw[if_neg (by rw[hx.2];decide)]at hk;refine AD (iq _ _ _ _ (FH hk hs.fr.kind))<|Ae (J_ (Ae ?_))
 show Aq _ X.A (do let _<-UO (.ListComp Av [⟨A4,iter,ifs,0⟩] scope pos) scope X.env _ (newList []) false (Ab iter X.env) (some (G6 (.Name x px) X.env))) _ _ s;refine Ae (Bz (Q:=λZ s'=>AW X RF D s V Q TJ s') (h.core F hs Hg Ke λacc AJ Ad m₁ Ac l a b c d e C mm hN dC nf no nC=>?_) (λZ s' p=>BN (BN p)) λZ Z x=>x);(refine A1 (Cv.NW (e.2 acc d) (w:=X.w) (h₀:=X.h₀) (s:=AJ) (s':=AJ) (LD:=Ac) (KG:=Ad.set acc (.list l)) (v:=.ref acc) a.rs Step.refl a.rs.live CV.refl (by simp only[AZ])) λmv Gd Fq AX=>?_;refine Cu AX λk1 k2 k3 k4 k5=>?_;clear AX);obtain a':=a.next k1 k2;obtain b':=b.trans hs.rs.live k2.Hn;obtain CI:¬foot Gd C:=λf=>by
  rcases k2.F0 C f with q|q
  ·exact nf q
  ·(refine A1 hN λo Z Z A9=>?_;refine BQ A9 λe1 Z=>?_;clear A9;try clear hN);exact CO e1 q
 exact X1 hs a' b' (c.trans k3) e.1 k4 hN (k2.GJ _ dC nf) CI no nC k5
theorem Z9:∀{l},nodup l=true->l.Nodup
 |[],_=>List.nodup_nil
 |x::r,h=>by
  simp only[AJ8]at h;rw[KH,N1]at h;exact LJ.mpr ⟨λz=>absurd h.1 (by refine AD (fF.mpr z) ?_;decide),Z9 h.2⟩
theorem UL(h:MK scope=true):CF scope (GQ scope .local) (freeOf scope) (GQ scope .globalImplicit)/\(GQ scope .local).Nodup:=by
 unfold MK at h;simp only[KH]at h;obtain⟨⟨⟨⟨⟨⟨⟨a,b⟩,c⟩,d⟩,d2⟩,e⟩,f⟩,g⟩:=h;exact⟨⟨beq_iff_eq.mp a,b,c,rfl,Z9 d,e,f,g⟩,Z9 d2⟩
theorem mP:∀{a b},BG a x=true->DS (a++b) x v=DS a x v++b
 |(y,o)::r,b,h=>by
  simp only[I8]at h;by_cases e:y=x
  ·refine AD GD<|AG (Kn.2 ..)<|AD (Kn.2 ..)<|AG (if_pos e)<|AD (if_pos e) ?_;rfl
  ·rw[if_neg e]at h;refine AD GD<|AG (Kn.2 ..)<|AD (Kn.2 ..)<|AG (if_neg e)<|AD (if_neg e)<|AD (mP h) ?_;rfl
theorem mQ{g:AV->Option MV}:∀{ls:List AV},ls.Nodup->DS (ls.map λy=>(y,g y)) x v=ls.map λy=>(y,if y=x then some v else g y)
 |[],_=>rfl
 |y::r,h=>by
  have h':=LJ.mp h;by_cases e:y=x
  ·refine AD By<|AD By<|AG (Kn.2 ..)<|AG (if_pos e)<|AD (if_pos e) ?_
   exact congrArg _ (OA λz hz=>by exact AD (if_neg λq=>h'.1 (by rw[e,<-q];exact hz)) rfl)
  ·rw[By,By,Kn.2,if_neg e,if_neg e,mQ h'.2]
theorem Zw{v:MV}(nd:ls.Nodup)(hx:ls.contains x=true):DS (C9 ls g fs m) x v=C9 ls (λy=>if y=x then some v else g y) fs m:=by
 unfold C9;rw[mP (Ra (fF.mp hx)),mQ nd]
theorem Zg(h:∀y∈ls,g y=g' y):C9 ls g fs m=C9 ls g' fs m:=by
 unfold C9;exact AD (OA λy hy=>by rw[h y hy]) rfl
theorem jm:Good ls fs m (C9 ls g fs m):=by
 unfold Good;refine Zg λy hy=>?_;unfold C9;exact AD (VF (Ra hy)) AD (Zn hy) rfl
theorem vK(h:UD (.Tuple es k p) mv=some bl):∃x px y py u w,es=[.Name x px,.Name y py]/\mv=.tup [u,w]/\bl=[(y,w),(x,u)]:=by
 cases es with
 |nil=>exact HE h
 |cons a es=>
 cases es with
 |nil=>exact HE h
 |cons b es=>
 cases es with
 |cons _ _=>exact HE h
 |nil=>
 cases mv with
 |tup l=>
  cases l with
  |nil=>exact HE h
  |cons u l=>
  cases l with
  |nil=>exact HE h
  |cons w l=>
  cases l with
  |cons _ _=>exact HE h
  |nil=>
  have h:(match L8 a,L8 b with|some x,some y=>some [(y,w),(x,u)]|_,_=>none)=some bl:=h;cases e1:L8 a with
  |none=>rw[e1]at h;exact nS h
  |some x=>
  cases e2:L8 b with
  |none=>rw[e1,e2]at h;exact nS h
  |some y=>
  rw[e1,e2]at h;(obtain zI:=Au h;subst zI);exact(Z8 e1).elim λpa ha=>(Z8 e2).elim λpb hb=>Qo x pa y pb u w (AO (by rw[ha,hb]) rfl rfl)
 |_=>exact HE h
theorem AY5(h:UD t mv=some b)(nd:ls.Nodup)(hb:(b.all λx=>ls.contains x.1)=true)
 (q:Q V (C9 ls (IA b g) fs m)):TA X t mv V (C9 ls g fs m) Q:=by
 obtain has:∀{x g},ls.contains x=true->BG (C9 ls g fs m) x=true:=λhx=>by
  unfold C9;rw[Zq,Ra (fF.mp hx)];rfl
 cases t with
 |Name x p=>
  (obtain zI:=Au h;subst zI);simp only[tI,tJ,rq]at hb;refine PZ (has hb) ?_;rw[Zw nd hb,Zg (g':=IA [(x,mv)] g) λy Z=>?_]
  ·exact q
  ·unfold IA;simp only[Qx];by_cases e:y=x
   ·rw[if_pos e,if_pos e.symm]
   ·rw[if_neg e,if_neg λz=>e z.symm]
 |Tuple es k p''=>
  refine OZ (vK h) λx p y p' u v z=>?_;obtain z1:=z.1;obtain z2:=z.2.1;obtain z3:=z.2.2;clear h z;subst z1 z2 z3;simp only[tI,tJ,rq,KH]at hb;refine pN (bF (PZ (has hb.2) ?_) rfl) rfl rfl;rw[Zw nd hb.2];refine bF (PZ (has hb.1) (pP ?_)) rfl;rw[Zw nd hb.1,Zg (g':=IA [(y,v),(x,u)] g) λz Z=>?_]
  ·exact q
  ·unfold IA;by_cases e:z=y
   ·simp only[Qx,e,if_true]
   ·obtain e':¬y=z:=λq=>e q.symm;by_cases e2:z=x
    ·obtain e3:¬y=x:=λq=>e (e2.trans q.symm);simp only[Qx,e2,e3,if_true,if_false];rw[if_neg λq=>e (e2.trans q)]
    ·obtain e4:¬x=z:=λq=>e2 q.symm;simp only[Qx,e,e',e2,e4,if_false]
 |_=>exact nS h
theorem Cv.mono(h:Cv Q v V)(k:∀v V,Q v V->Q' v V):Cv Q' v V:=by
 induction h with
 |done q=>exact .done (k _ _ q)
 |list e _ ih=>exact .list e ih
 |di e _ ih=>exact .di e ih
 |dp e _ ih=>exact .dp e ih
 |inst e _ ih=>exact .inst e ih
 |sub e _ ih=>exact .sub e ih
theorem AC6{lo hi e}(h:ZL lo hi e=true):lo=none/\hi=none/\∃k p q,e=.UnaryOp .USub (.Constant (.int 1) k p) q:=by
 cases lo with
 |some _=>exact fT h
 |none=>
 cases hi with
 |some _=>exact fT h
 |none=>
 cases e with
 |UnaryOp op x q=>
  cases op with
  |USub=>exact(lQ (of_decide_eq_true (show decide (RG x=some 1)=true from h))).elim λk z=>z.elim λp z=>(AO rfl rfl (BK k p q (AD z rfl)))
  |_=>exact absurd h Ed
 |_=>exact absurd h Ed
theorem AC4(h:U7 f m o name=true):∃np,o=.Name "Matcher" np/\f.G.contains "Matcher"=true/\name="__init__":=by
 obtain e4:=D4 h;obtain e5:=D4 e4.1;exact(Z8 (of_decide_eq_true e5.1)).elim λnp z=>⟨np,z,e5.2,of_decide_eq_true e4.2⟩
theorem AK0(h:Z_ e=true):LN e:=λZ Z=>by cases e<;>first|rfl|exact absurd h Ed
theorem Xz{V m K K'}(h:Me X scope ls fs G Av A4 iter ifs V m K)(k:∀l V m',K l V m'->K' l V m'):Me X scope ls fs G Av A4 iter ifs V m K':=
 TR.mono h λv V m q=>⟨q.1,q.2.elim λitems z=>z.elim λP z=>(Aj items P ⟨z.1,(z.2.elim λI z=>⟨I,(An z.1 z.2.1 z.2.2.1 z.2.2.2.1 (λl V hI=>k _ _ _ (z.2.2.2.2 l V hI)))⟩)⟩)⟩
theorem AD3(h:aQ e=true)(x)(env):Jf e env x=pure x:=by
 cases e<;>first|rfl|exact absurd h Ed
theorem aR(h:ME e=true)(x)(env):Jf e env x=pure x:=by
 cases e<;>first|rfl|exact absurd h Ed
theorem Ab8
 (h:TR X AY (F7 (Dl pos (Cr elts X.env))) V m λvs V m=>vs.length<=1000/\(Q (.lst vs) V m\/∀a,¬foot V a->Q (.ref a) (V.set a (.list vs)) m)):TR X VR (Ab (.List elts pos) X.env) V m Q:=λs D hs=>by
 refine wpAny_List_spliced (TR.go h hs λvs AJ CY Ad m₁ Ac h1 h2 h3 h4 h5=>⟨by refine AD (A0 h4.length) ?_;exact Ek h5.1 (by decide),?_⟩);rcases h5.2 with q|q
 ·apply AW.trans hs h2 h3;obtain⟨a,b⟩:=h1.push (s:=AJ) {cls:=.type "list",data:=.seq vs.toArray};refine AW.next (t:=AJ.toks) h1 a.rs b ?_ q;simp only[AZ];exact(BK _ vs.toArray 0 (BR rfl (MA h1.rs) (Dx _ rfl) (b.F8 h1.rs (λZ q=>q.elim) h4)))
 ·apply AW.trans hs h2 h3;obtain⟨a,b⟩:=RS.newList h1.rs 0 h4;exact AW.next (t:=AJ.toks) h1 a b (by simp only[AZ]) (q _ λf=>MA h1.rs (Ob h1.rs f))
section
variable{c:CW}{f:Fr}{A:Hx}{env:FX}{s:List Co}{V:Hp}{m:Lc}{K:Ks}{n:Nat}
variable(ih:∀k,k<n+1->T6 c k)
include ih
theorem UY(h:M7 f m scope=true):∀x∈freeOf scope,BG m x=true/\f.C.contains x=true:=λx hx=>by
 obtain this:=Il.mp h x hx;rwa[KH]at this
theorem iA(hs:MK scope=true)(hf:M7 f m scope=true)(h:run c n f (.ev iter) (.lc Av A4 ifs scope::s) V m K)
 (hG:∀j a V,j<n->run c j f (.val a) s V m K->G a V):
 Me (cx c f A env) scope (GQ scope .local) (freeOf scope) (GQ scope .globalImplicit) Av A4 iter ifs V m λl AE m'=>m'=m/\∀a,¬foot AE a->Cv G (.ref a) (AE.set a (.list l)):=by
 obtain nd:=(UL hs).2;refine(Fi ih h).nx (λZ Z z=>z) λv CC j hj h=>⟨UY ih hf,?_⟩;obtain h':=Stop.go (show Stop (N2 (run c j (SD f scope)) v Av A4 ifs (GQ scope .local) (freeOf scope) CC m λv AE=>run c j f (.val v) s AE m K)from h);clear h;(refine Ao h' λitems P AR=>?_;obtain io:=AR.1;obtain Af:=AR.2;refine AI Af λI AX=>?_;obtain i1:=AX.1;obtain i2:=AX.2.1;obtain i3:=AX.2.2.1;obtain turn:=AX.2.2.2.1;obtain fin:=AX.2.2.2.2;clear AX Af AR;try clear h');refine(Aj items P ⟨io,⟨I,(An i1 i2 i3 (λC mv AN l Bf g hI=>?_) (λl Bf hI=>⟨rfl,λa na=>(fin l Bf hI a na).mono λv V q=>hG j _ _ (AM 0x11210002101200329 rfl hj) q⟩))⟩⟩);(refine AI (turn mv AN l Bf g hI) λb A9=>?_;obtain hb:=A9.1;obtain IC:=A9.2.1;obtain hr:=A9.2.2;clear A9);refine AY5 hb nd IC ?_;obtain el:∀{DC k},k<n+1->run c k (SD f scope) (.ev Av) [] DC (C9 (GQ scope .local) (IA b g) (freeOf scope) m) (UP l I AN)->
  TR (Dm (cx c f A env) scope C (GQ scope .globalImplicit) (freeOf scope)) VR (Ab Av (Dm (cx c f A env) scope C (GQ scope .globalImplicit) (freeOf scope)).env) DC (C9 (GQ scope .local) (IA b g) (freeOf scope) m)
   (λv V L3=>l.length<=100000/\Good (GQ scope .local) (freeOf scope) m L3/\I AN (l++[v]) V):=λhk h=>
  ((ih _ hk).ev (f:=SD f scope) (A:=A) h).nx (λZ Z z=>z) λv AE i hi h=>by
    have h':l.length<=100000/\I AN (l++[v]) AE:=h;exact(AO h'.1 jm h'.2)
 cases ifs with
 |nil=>exact bM (by refine AD (if_pos rfl) ?_;exact el (Ci hj) hr)
 |cons t r=>
  cases r with
  |cons _ _=>exact hr.elim
  |nil=>
   refine Af5 (((ih j (Ci hj)).ts (f:=SD f scope) (A:=A) hr).nx (λZ Z z=>z) λok AE i hi h=>?_);cases ok with
   |true=>refine AD (if_pos rfl) ?_;exact el (Sp hj hi) (FC h)
   |false=>
    refine AD (if_neg (by decide))<|⟨jm,?_⟩
    obtain h2:=FC h;cases i with
    |zero=>exact h2.elim
    |succ i=>exact h2
theorem vC(es):∀{x y V k},k<=n->run c k f (.ev x) (.av (y::es)::s) V m K->TR (cx c f A env) VR (M1 pos .And (UT (x::y::es) env)) V m (Dw c f (n+1) s K m):=by
 induction es with
 |nil=>
  intro x y V k hk h;refine ph (((ih k (WU hk)).ev h).nx (λZ Z z=>z) λv AE j hj h=>Fl (o:=boolOf v) h (λb e h=>⟨b,Xm e,?_⟩) λZ h=>h.elim);have h:run c j f (.tv b) (.aw [y]::s) AE m K:=h;cases j with
  |zero=>exact h.elim
  |succ j=>
   cases b with
   |true=>exact Ad4 (((ih j (dG hk hj)).ev (FC h)).mono λv AE m' q=>⟨q.1,q.2.up (AQ 0x111312103000201212003329102009 rfl hk hj)⟩)
   |false=>exact⟨rfl,.mk (dG hk hj) (FC h)⟩
 |cons z es IH=>
  intro x y V k hk h;refine ph (((ih k (WU hk)).ev h).nx (λZ Z z=>z) λv AE j hj h=>Fl (o:=boolOf v) h (λb e h=>⟨b,Xm e,?_⟩) λZ h=>h.elim);have h:run c j f (.tv b) (.aw (y::z::es)::s) AE m K:=h;cases j with
  |zero=>exact h.elim
  |succ j=>
   cases b with
   |true=>exact IH (AQ 0x111310000201212003329102009 rfl hk hj) (FC h)
   |false=>exact⟨rfl,.mk (dG hk hj) (FC h)⟩
theorem xU(h:run c (n+1) f (.ev (.Constant v k p)) s V m K):TR (cx c f A env) VR (Ab (.Constant v k p) env) V m (Dw c f (n+1) s K m):=by
 have L:=CP n;cases v with
 |int i=>exact Ae4 ⟨rfl,.mk L h⟩
 |none=>exact Ae6 ⟨rfl,.mk L h⟩
 |bool b=>exact Ad3 ⟨rfl,.mk L h⟩
 |str x=>exact Af2 ⟨rfl,.mk L h⟩
 |_=>exact DP ih h
theorem xZ(h:run c (n+1) f (.ev (.Name x p)) s V m K):TR (cx c f A env) VR (Ab (.Name x p) env) V m (Dw c f (n+1) s K m):=by
 have L:=CP n;refine Dn (b:=MC x) h (λe1 h=>Fl (o:=CT m x) h (λv e2 h=>Ac2 e2 ⟨rfl,.mk L h⟩ (NU e1).1 (NU e1).2) λe2 h=>Dn (b:=f.G.contains x) h (λe3 h=>Fl (o:=Ep Ue x) h (λi e4 h=>?_) λZ h=>DP ih h) λZ h=>DP ih h) λZ h=>DP ih h;obtain⟨t,e5⟩:=yz (P:=c.w.params) e4;exact Ab5 e3 e5 ⟨rfl,.mk L h⟩ (NU e1).1
theorem xf(h:run c (n+1) f (.ev (.UnaryOp op x p)) s V m K):TR (cx c f A env) VR (Ab (.UnaryOp op x p) env) V m (Dw c f (n+1) s K m):=by
 cases op with
 |USub=>exact Fl (o:=RG x) h (λi e h=>(lQ e).elim λk z=>z.elim λp' z=>by subst z;exact Ae5 ⟨rfl,.mk (CP n) h⟩) λZ h=>DP ih h
 |_=>exact DP ih h
theorem xN(h:run c (n+1) f (.ev (.BinOp l op r p)) s V m K):TR (cx c f A env) VR (Ab (.BinOp l op r p) env) V m (Dw c f (n+1) s K m):=by
 obtain L:=CP n;exact Aa4 (OY ih (g:=λv=>.b2 op v) (y:=.b1 op r) h (λZ Z Z h=>h) λa b AE j hj h2=>AO3 h2 (Ib hj))
theorem xT(h:run c (n+1) f (.ev (.Compare l ops rs p)) s V m K):TR (cx c f A env) VR (Ab (.Compare l ops rs p) env) V m (Dw c f (n+1) s K m):=by
 obtain L:=CP n;cases ops with
 |nil=>exact DP ih h
 |cons op ops=>
  cases ops with
  |nil=>
   cases rs with
   |nil=>exact DP ih h
   |cons r rs=>
    cases rs with
    |nil=>exact Dn (b:=QY op r) h (λZ h=>DP ih h) λe h=>Ab0 (OY ih (g:=λv=>.c2 op v) (y:=.c1 op r) h (λZ Z Z h=>h) λa b AE j hj h2=>gf h2 (Ib hj)) e
    |cons _ _=>exact DP ih h
  |cons o2 ops=>
   cases ops with
   |cons _ _=>exact DP ih h
   |nil=>
    cases rs with
    |nil=>exact DP ih h
    |cons r1 rs=>
     cases rs with
     |nil=>exact DP ih h
     |cons r2 rs=>
      cases rs with
      |cons _ _=>exact DP ih h
      |nil=>
       refine Dn (b:=RT [op,o2] [r1,r2]) h (λZ h=>DP ih h) λe h=>Ad6 (OY ih (g:=λv=>.Qf false op v o2 r2) h (λZ Z Z h=>h) λa b AE j hj h2=>BO.mono (λw AE m' q=>by cases q.1;exact v5 ih q.2) (gv h2 hj)) e
theorem xW(h:run c (n+1) f (.ev (.IfExp t a b p)) s V m K):TR (cx c f A env) VR (Ab (.IfExp t a b p) env) V m (Dw c f (n+1) s K m):=by
 have L:=CP n;refine Ab7 (((ih n L).ts (s:=.ie a b::s) h).nx (λZ Z z=>z) λk AE j hj h=>?_);cases k with
 |true=>exact((ih j (Ci hj)).ev (FC h)).mono λv AE m' q=>⟨q.1,q.2.up (MU hj)⟩
 |false=>exact((ih j (Ci hj)).ev (FC h)).mono λv AE m' q=>⟨q.1,q.2.up (MU hj)⟩
theorem xO(h:run c (n+1) f (.ev (.BoolOp op es p)) s V m K):TR (cx c f A env) VR (Ab (.BoolOp op es p) env) V m (Dw c f (n+1) s K m):=by
 have L:=CP n;cases op with
 |Or=>exact DP ih h
 |And=>
  cases es with
  |nil=>exact DP ih h
  |cons x es=>
   cases es with
   |nil=>exact DP ih h
   |cons y r=>exact Aa6 (vC ih r (BX n) h)
theorem xe(h:run c (n+1) f (.ev (.Tuple es k p)) s V m K):TR (cx c f A env) VR (Ab (.Tuple es k p) env) V m (Dw c f (n+1) s K m):=by
 obtain L:=CP n;exact Dn (b:=noStar es) h (λe h=>Ad0 (((ih n L).ar e h).nx (λZ Z z=>z) λl AE j hj h=>Dn (b:=Mq l.length 1000) h (λe2 h=>(AO (QJ e2) rfl (.mk (Ci hj) h))) λZ h=>h.elim)) λZ h=>DP ih h
theorem xV(h:run c (n+1) f (.ev (.Dict ks vs p)) s V m K):TR (cx c f A env) VR (Ab (.Dict ks vs p) env) V m (Dw c f (n+1) s K m):=by
 have L:=CP n;cases ks with
 |cons _ _=>exact DP ih h
 |nil=>
 cases vs with
 |cons _ _=>exact DP ih h
 |nil=>
  refine(Stop.go (show Stop (ask c .dict V λv AE=>run c n f (.val v) s AE m K)from h)).elim (λh=>?_) λh=>?_
  ·exact Ab1 λd nd=>⟨rfl,.mk L (h d nd)⟩
  ·exact Ab2 λd nd=>⟨rfl,.mk L (h d nd)⟩
theorem xM(h:run c (n+1) f (.ev (.Attribute v a p)) s V m K):TR (cx c f A env) VR (Ab (.Attribute v a p) env) V m (Dw c f (n+1) s K m):=by
 have L:=CP n;exact Dn (b:=PI v) h (λe h=>Aa2 ((Fi ih h).nx (λZ Z z=>z) λw AE j hj h=>KR.mono (λv AE m' q=>⟨q.1,.mk (Ci hj) q.2⟩) (Stop.go (show Stop (ask c (.attr a w) AE λv AE=>run c j f (.val v) s AE m K)from h) (cx c f A env) m))
  (by cases v<;>first|rfl|exact absurd e Ed)) λZ h=>DP ih h
omit ih in
theorem Od(h:fin c (run c j) f K (.stop x s V m)):ask c x V λv AE=>run c j f (.val v) s AE m K:=Stop.go h
omit ih in
theorem Zy:(lvl f a).getD 0<=f.n:=by
 unfold lvl;split
 ·split
  ·rename_i e;exact QJ e
  ·exact JX _
 ·exact BX _
omit ih in
theorem i9(hj:j<n)(h:fin c (run c j) f K (.stop (.fn k a l) s V m)):Ag c.w c.h k a l V λv AE=>Dw c f n s K m v AE m:=
 Ag.mono (Od h) λv Bf q=>⟨rfl,.mk hj q⟩
omit ih in
theorem YE(hj:j<n)(h:fin c (run c j) f K (og (lvl f a) (λk=>.stop (.fn k a l) s V m) .bad)):Ag c.w c.h ((lvl f a).getD 0) a l V λv AE=>Dw c f n s K m v AE m:=
 Fl (o:=lvl f a) h (λk e h=>by refine AD e ?_;exact i9 hj h) λZ h=>h.elim
omit ih in
theorem gU(hj:j<n)(h:fin c (run c j) f K (.stop (.bi v l) s V m)):Dk (cx c f A env) v l V m (Dw c f n s K m):=
 Dk.mono (λv AE m' q=>⟨q.1,.mk hj q.2⟩) (Od h _ m)
theorem xS(h:run c (n+1) f (.ev (.Call (.Name x q) es [] p)) s V m K):TR (cx c f A env) VR (Ab (.Call (.Name x q) es [] p) env) V m (Dw c f (n+1) s K m):=
 Dn (b:=noStar es&&MC x&&f.G.contains x&&((Ep Oc x).isSome||(Ep Ka x).isSome)) h (λe h=>by
  obtain e0:=D4 e;obtain e1:=D4 e0.1;obtain e3:=D4 e1.1;obtain ha:=(ih n (CP n)).ar (A:=A) (env:=env) (pos:=p) e3.1 h;cases e4:Ep Oc x with
  |some a=>
   exact Aa9 (yy e4) e1.2 Zy (ha.nx (λZ Z z=>z) λl AE j hj h=>YE (G2 (D8 hj)) (show fin c (run c j) f K (og (some a) (λa=>og (lvl f a) (λk=>.stop (.fn k a l) s AE m) .bad) (og (Ep Ka x) (λv=>.stop (.bi v l) s AE m) .bad))from e4▸h)) (Vc e3.1) (NU e3.2).1
  |none=>
   cases e5:Ep Ka x with
   |none=>rw[e4,e5]at e0;exact absurd e0.2 Ed
   |some v=>
    exact Aa8 (yi e5) e1.2 (yh e5) (ha.nx (λZ Z z=>z) λl AE j hj h=>gU (G2 (D8 hj)) (show fin c (run c j) f K (og none (λa=>og (lvl f a) (λk=>.stop (.fn k a l) s AE m) .bad) (og (some v) (λv=>.stop (.bi v l) s AE m) .bad))from e5▸e4▸h)) (Vc e3.1) (NU e3.2).1) λZ h=>DP ih h
theorem xR(e1:U7 f m o name=true)(e2:noStar es=true)(e3:es.length<9)(e4:(q.endLine==p.line)=true)(h:run c n f (.ar es) (.cm 385::s) V m K):TR (cx c f A env) VR (Ab (.Call (.Attribute o name q) es [] p) env) V m (Dw c f (n+1) s K m):=by
 (refine AI (AC4 e1) λnp Ai=>?_;obtain Eb:=Ai.1;obtain eg:=Ai.2.1;obtain Ex:=Ai.2.2;clear Ai;subst Eb;subst Ex);exact Ac1 (yw _) (zZ _) eg Zy (((ih n (CP n)).ar (A:=A) (env:=env) (pos:=p) e2 h).nx (λZ Z z=>z) λl AE j hj h=>YE (G2 (D8 hj)) h) (Vc e2) (by decide) (mY rfl e2 e3 e4)
theorem xQ(e1:PI o=true)(e2:noStar es=true)(e3:es.length<9)(e4:(q.endLine==p.line)=true)(h:run c n f (.ev o) (.m1 name es::s) V m K):TR (cx c f A env) VR (Ab (.Call (.Attribute o name q) es [] p) env) V m (Dw c f (n+1) s K m):=by
 refine Ab9 ((Fi ih h).nx (λZ Z z=>z) λa AE j hj h=>?_) (Vc e2) (mY e1 e2 e3 e4);cases j with
 |zero=>exact(Od h).elim (λz=>z.elim λZ z=>z.elim λZ z=>z.elim λZ z=>z.elim λZ z=>z.2.2.2.elim) λz=>z.elim λZ z=>z.elim λZ z=>z.elim λZ z=>z.2.2.2.elim
 |succ j=>
 have Er:j<n+1:=D8 (G2 (D8 hj));refine(Od h).elim (λz=>z.elim λc' z=>z.elim λks z=>z.elim λvs z=>z.elim λg z=>.inl ?_) λz=>z.elim λT z=>z.elim λid z=>z.elim λk z=>?_
 ·have h:run c j f (.ar es) (.m3 (X5.contains name) g a::s) AE m K:=z.2.2.2;cases e6:X5.contains name with
  |true=>
   rw[e6]at h;exact(D_ c' ks vs g f.n (An (BX _) z.1 z.2.1 (z.2.2.1 _) (((ih j Er).ar (s:=.m3 true g a::s) e2 h).nx (λZ Z z=>z) λl AE i' IB h=>i9 (Gf (D8 IB) Er) h)))
  |false=>
   rw[e6]at h;exact(D_ c' ks vs g _ (An Zy z.1 z.2.1 (z.2.2.1 _) (((ih j Er).ar (s:=.m3 false g a::s) e2 h).nx (λZ Z z=>z) λl AE i' IB h=>YE (Gf (D8 IB) Er) h)))
 ·refine Fl (o:=Xk k) z.2.2.2 (λid' e5 h=>?_) λZ h=>h.elim;(obtain zI:=Au (z.2.1.symm.trans e5);subst zI);exact .inr (Aj T id (AO z.1 (z.2.2.1 _ _) (((ih j Er).ar (s:=.m4 id a::s) e2 h).nx (λZ Z z=>z) λl AE i' IB h=>gU (Gf (D8 IB) Er) h)))
theorem xP(h:run c (n+1) f (.ev (.Call g es ks p)) s V m K):TR (cx c f A env) VR (Ab (.Call g es ks p) env) V m (Dw c f (n+1) s K m):=by
 cases ks with
 |cons _ _=>exact DP ih h
 |nil=>
 cases g with
 |Name x q=>exact xS ih h
 |Attribute o name q=>
  refine Dn (b:=U7 f m o name&&noStar es&&decide (es.length<9)&&(q.endLine==p.line)) h (λe h=>?_) λZ h=>Dn (b:=noStar es&&PI o&&decide (es.length<9)&&(q.endLine==p.line)) h (λe h=>?_) λZ h=>DP ih h
  ·obtain e0:=D4 e;obtain e1:=D4 e0.1;obtain e3:=D4 e1.1;exact xR ih e3.1 e3.2 (of_decide_eq_true e1.2) e0.2 h
  ·obtain e0:=D4 e;obtain e1:=D4 e0.1;obtain e3:=D4 e1.1;exact xQ ih e3.2 e3.1 (of_decide_eq_true e1.2) e0.2 h
 |_=>exact DP ih h
theorem xX(h:run c (n+1) f (.ev (.List es p)) s V m K):TR (cx c f A env) VR (Ab (.List es p) env) V m (Dw c f (n+1) s K m):=by
 have L:=CP n;exact Dn (b:=noStar es) h (λe h=>Ab8 (((ih n L).ar e h).nx (λZ Z z=>z) λl AE j hj h=>Dn (b:=Mq l.length 1000) h (λe2 h=>⟨QJ e2,
  (Stop.go (show Stop (ask c (.list l) AE λv AE=>run c j f (.val v) s AE m K)from h)).elim (λh=>.inl ⟨rfl,.mk (Ci hj) h⟩) λh=>.inr λa na=>⟨rfl,.mk (Ci hj) (h a na)⟩⟩) λZ h=>h.elim)) λZ h=>DP ih h
theorem xc{sl p}(h:run c (n+1) f (.ev (.Subscript v sl p)) s V m K):TR (cx c f A env) VR (Ab (.Subscript v sl p) env) V m (Dw c f (n+1) s K m):=by
 have L:=CP n;have nH:Z_ sl=true->run c n f (.ev v) (.Vu sl::s) V m K->TR (cx c f A env) VR (Ab (.Subscript v sl p) env) V m (Dw c f (n+1) s K m):=λe h=>
  Ac9 (OY ih (g:=λv=>.a_ v) (y:=.Vu sl) h (λZ Z Z h=>h) λa b AE j hj h2=>BO.mono (λw AE m' q=>⟨q.1,.mk (Ib hj) q.2⟩)
   (Stop.go (show Stop (ask c (.sub a b) AE λv AE=>run c j f (.val v) s AE m K)from h2) (cx c f A env) m v sl (AK0 e))) e
 cases sl with
 |Slice lo hi st p'=>
  cases st with
  |none=>
   refine Ac7 ((Fi ih (s':=.aa (isName v) lo hi::s) h).nx (λZ Z z=>z) λa CC j1 I4 h=>((ih j1 (Ci I4)).pt (s:=.af (isName v) a hi::s) h).nx (λZ Z z=>z) λkl Bf j2 I5 h=>
    ((ih j2 (Sp I4 I5)).pt (s:=.aj (isName v) a kl::s) h).nx (λZ Z z=>z) λkh DC j3 Uo h=>?_)
   (obtain cM:=(Stop.go (show Stop (ask c (.sl (isName v) a kl kh) DC λv AE=>run c j3 f (.val v) s AE m K)from h));obtain n1:=cM.1;obtain n2:=cM.2.1;obtain h:=cM.2.2);refine(AO n1 n2 (h.elim (λh=>.inl ?_) λh=>.inr ?_))
   ·(obtain t:=h.1;obtain A2:=h.2;refine AI A2 λl BC=>?_;obtain i:=BC.1;obtain hz:=BC.2.1;obtain h:=BC.2.2;clear BC A2);exact⟨t,⟨l,(BR i hz rfl (.mk (CM 0x1111412103002201200329301220329101230329 rfl I4 I5 Uo) h))⟩⟩
   ·(refine AI h λl BM=>?_;obtain i:=BM.1;obtain hz:=BM.2.1;obtain h:=BM.2.2;clear BM);exact⟨l,(BR i hz rfl (.mk (CM 0x1111412103002201200329301220329101230329 rfl I4 I5 Uo) h))⟩
  |some st=>
   refine Dn (b:=isName v&&ZL lo hi st) h (λe h1=>?_) λZ h=>DP ih h;have e1:=D4 e;(obtain WH:=(AC6 e1.2);obtain Ht:=WH.1;obtain JK:=WH.2.1;obtain Bj:=WH.2.2;refine A1 Bj λk p3 p2 JL=>?_;clear Bj;subst Ht;subst JK;(try clear WH;try clear e;try clear nH;try clear h;subst JL));refine Ac6 ((Fi ih h1).nx (λZ Z z=>z) λa AE j hj h=>?_) (mh e1.1);(refine AI (Stop.go (show Stop (ask c (.rev a) AE λv AE=>run c j f (.val v) s AE m K)from h)) λl Cb=>?_;obtain i:=Cb.1;obtain hz:=Cb.2.1;obtain h:=Cb.2.2;clear Cb);exact⟨l,(BR i hz rfl (.mk (Ci hj) h))⟩
 |_=>exact nH rfl h
theorem xY{scope p}(h:run c (n+1) f (.ev (.ListComp Av g scope p)) s V m K):TR (cx c f A env) VR (Ab (.ListComp Av g scope p) env) V m (Dw c f (n+1) s K m):=by
 obtain L:=CP n;match g,h with
 |[],h=>exact DP ih h
 |⟨A4,iter,ifs,a⟩::r,h=>
  refine Dn (b:=r.isEmpty&&decide (a=0)&&MK scope&&M7 f m scope&&ME iter) h (λe h1=>?_) λZ h=>DP ih h;obtain e3:=D4 e;obtain e2:=D4 e3.1;obtain e1:=D4 e2.1;obtain e0:=D4 e1.1;cases of_decide_eq_true e0.2;cases r with
  |cons _ _=>exact fT e0.1
  |nil=>
   exact TR.cv (pg (UL e1.2).1 (UY ih e2.2) (Xz (iA (A:=A) (env:=env) (G:=λa V=>Le (n+1) λk=>run c k f (.val a) s V m K) ih e1.2 e2.2 h1 λj a V hj h=>.mk (G2 hj) h) λl V m1 q=>by cases q.1;exact λa na=>⟨rfl,(q.2 a na).mono λv V q=>⟨rfl,q⟩⟩) (λx=>aR e3.2 x _))
theorem AU6(h:run c (n+1) f (.ev e) s V m K):TR (cx c f A env) VR (Ab e env) V m (Dw c f (n+1) s K m):=by
 cases e with
 |Constant v k p=>exact xU ih h
 |Name x p=>exact xZ ih h
 |UnaryOp op x p=>exact xf ih h
 |BinOp l op r p=>exact xN ih h
 |Compare l ops rs p=>exact xT ih h
 |IfExp t a b p=>exact xW ih h
 |BoolOp op es p=>exact xO ih h
 |Tuple es k p=>exact xe ih h
 |Dict ks vs p=>exact xV ih h
 |Attribute v a p=>exact xM ih h
 |Call g es ks p=>exact xP ih h
 |List es p=>exact xX ih h
 |Subscript v sl p=>exact xc ih h
 |ListComp Av g scope p=>exact xY ih h
 |_=>exact DP ih h
end
theorem AX8(v o i)(q)(l)(env):HJ v (some (.Subscript o i q)) l env=pure false:=by cases v<;>rfl
theorem AX7(v o)(a)(q)(l)(env):HJ v (some (.Attribute o a q)) l env=pure false:=by cases v<;>rfl
theorem AX9(e:Na ts vs=some (some names)):ts.filterMap (GW ts)=names:=by
 revert e;exact R1 (λe=>nS (Au e)) (R1 (λe=>nS (Au e)) (R1 (λe=>nS (Au e)) (R1 (λe=>nS (Au e)) (R1 (λe=>nS e) λe=>Au (Au e)))))
theorem AZ5(hx:BG m x=true/\X.C.contains x=true)
 (h:TR X VR (Ab (.ListComp Av gens scope pos) X.env) V m λv V m=>BG m x=true/\Q .next V (DS m x v)):TR X RF (Cj (.Assign [.Name x px] (.ListComp Av gens scope pos) pos') X.env) V m Q:=λs D hs=>by
 obtain hk:=hs.kd x hx.1;rw[if_pos hx.2]at hk;refine pd h ?_ s D hs;unfold HJ;dsimp only[eZ];show pure (X.env.blockKind==.function&&X.env.kindOf x==some .local&&px.line==pos.line&&!(scope.names.any λy=>y.1==x&&(y.2==.local||y.2==.cell)))=_;obtain this:(X.env.kindOf x==some .local)=false:=by rcases hk with z|z<;>rw[z]<;>rfl
 rw[this,eN,Nz,Nz]
section
variable{c:CW}{f:Fr}{A:Hx}{env:FX}{s:List Co}{V:Hp}{m:Lc}{K:Ks}{n:Nat}
abbrev E0(c:CW)(f:Fr)(n:Nat)(s:List Co)(K:Ks):Res->Hp->Lc->Prop:=λr AE m'=>Le n λk=>run c k f (.res r) s AE m' K
variable(ih:∀k,k<n+1->T6 c k)
include ih
theorem GV(h:Stop (∀A env,TR (cx c f A env) RF (Cj x env) V m λr AE m'=>run c n f (.res r) s AE m' K)):TR (cx c f A env) RF (Cj x env) V m (E0 c f (n+1) s K):=
 (h.go A env).mono λv AE m' q=>.mk (CP n) q
theorem AU8(h:run c (n+1) f (.ss l) s V m K):TR (cx c f A env) RF (Fy l env) V m (E0 c f (n+1) s K):=by
 cases l with
 |nil=>exact Ae0 (.mk (CP n) h)
 |cons x l=>
  refine Ad9 (((ih n (CP n)).st (s:=.sq l::s) h).I' (λZ Z Z z=>z) λr AE m' j hj h=>?_);cases r with
  |next=>exact((ih j (Ci hj)).ss h).mono λr AE m' q=>q.up (MU hj)
  |brk=>exact Le.mk (Ci hj) h
  |cont=>exact Le.mk (Ci hj) h
  |ret v=>exact Le.mk (Ci hj) h
theorem gX{k:Nat}{K':Ks}{Q:Res->Hp->Lc->Prop}(hk:k<=n)(h:run c k f (.ss l) [.bd] V m K')(q:∀r V m,K' (.l r) V m->Q r V m):TR (cx c f A env) RF (Fy l env) V m Q:=
 ((ih k (WU hk)).ss h).I' (λZ Z Z z=>z) λr AE m' j hj h=>q _ _ _ h
theorem iU{k:Nat}{K':Ks}{Q:Res->Hp->Lc->Prop}(hk:k<=n)(h:run c k f (.ss l) [] V m K')(q:∀r V m,K' (.r r) V m->Q r V m):TR (cx c f A env) RF (Fy l env) V m Q:=
 ((ih k (WU hk)).ss h).I' (λZ Z Z z=>z) λr AE m' j hj h=>q _ _ _ h
theorem oq(hj:j<n)(h:run c (j+1) f (.val v) (.sn x::s) V m K):BG m x=true/\E0 c f (n+1) s K .next V (DS m x v):=by
 exact Dn (b:=BG m x) h (λe h=>⟨e,.mk (Ib hj) h⟩) λZ h=>h.elim
omit ih in
theorem AF3{R:Fr->Rn}{G:Prop}{v:Expr}{x:Expr->List eW->E4->G4->Mv}{y:Expr->Mv}(h:fin c R f K (match v with| .ListComp Av g scope cp=>x Av g scope cp|v=>y v))(k1:∀Av g scope cp,v=.ListComp Av g scope cp->fin c R f K (x Av g scope cp)->G)(k2:fin c R f K (y v)->G):G:=by
 cases v with
 |ListComp Av g scope cp=>exact k1 _ _ _ _ rfl h
 |_=>exact k2 h
omit ih in
theorem Ag2{R:Fr->Rn}{G:Prop}{v:Expr}{x:List Expr->Nat->G4->Mv}{y:Expr->Mv}(h:fin c R f K (match v with| .Tuple vs k q=>x vs k q|v=>y v))(k1:∀vs k q,v=.Tuple vs k q->fin c R f K (x vs k q)->G)(k2:isTup v=false->fin c R f K (y v)->G):G:=by
 cases v with
 |Tuple vs k q=>exact k1 _ _ _ rfl h
 |_=>exact k2 rfl h
theorem AV6(h:fin c (run c n) f K (match g with
 |[]=>.E_ (.Assign [.Name x q] (.ListComp Av [] scope cp) p) s V m
 |⟨A4,iter,ifs,a⟩::r=>gd (r.isEmpty&&decide (a=0)&&MK scope&&M7 f m scope&&ME iter&&(BG m x&&(f.C.contains x||(q.line==cp.line&&!(scope.names.any λy=>y.1==x&&(y.2==.local||y.2==.cell))))))
  (.go (.ev iter) (.lc Av A4 ifs scope::.sn x::s) V m) (.E_ (.Assign [.Name x q] (.ListComp Av (⟨A4,iter,ifs,a⟩::r) scope cp) p) s V m))):TR (cx c f A env) RF (Cj (.Assign [.Name x q] (.ListComp Av g scope cp) p) env) V m (E0 c f (n+1) s K):=by
 cases g with
 |nil=>exact GV ih h
 |cons g r=>
  obtain⟨A4,iter,ifs,a⟩:=g;refine Dn (b:=r.isEmpty&&decide (a=0)&&MK scope&&M7 f m scope&&ME iter&&(BG m x&&(f.C.contains x||(q.line==cp.line&&!(scope.names.any λy=>y.1==x&&(y.2==.local||y.2==.cell)))))) h (λe h2=>?_) λZ h=>GV ih h;obtain e5:=D4 e;obtain e6:=D4 e5.2;obtain e4:=D4 e5.1;obtain e3:=D4 e4.1;obtain e2:=D4 e3.1;obtain e1:=D4 e2.1;cases of_decide_eq_true e1.2;cases r with
  |cons _ _=>exact fT e1.1
  |nil=>
   obtain z:=iA (A:=A) (env:=env) (G:=λa V=>BG m x=true/\E0 c f (n+1) s K .next V (DS m x a)) ih e2.2 e3.2 h2 λj a V hj h=>by
    cases j with
    |zero=>exact h.elim
    |succ j=>exact oq ih (D8 hj) h
   cases e7:f.C.contains x with
   |true=>exact AZ5 ⟨e6.1,e7⟩ (TR.cv (pg (UL e2.2).1 (UY ih e3.2) (Xz z λl V m' q=>by cases q.1;exact λa na=>⟨rfl,q.2 a na⟩) (λx=>aR e4.2 x _)))
   |false=>
    obtain e8:=D4 (show(q.line==cp.line&&!(scope.names.any λy=>y.1==x&&(y.2==.local||y.2==.cell)))=true by obtain this:=e6.2;rw[e7]at this;exact this);exact AZ6 (UL e2.2).1 (pK e8.1 ((N1 _).mp e8.2)) ⟨e6.1,e7⟩ (UY ih e3.2) (Xz z λl V m' q=>by cases q.1;exact⟨e6.1,λa na=>(q.2 a na).mono λv V q=>q.2⟩) (λx=>aR e4.2 x _)
theorem AV7(h:run c n f (.ev v) (.Vs o i::s) V m K):TR (cx c f A env) RF (Cj (.Assign [.Subscript o i q] v p) env) V m (E0 c f (n+1) s K):=by
 refine Aa0 ((Fi ih (s':=.Vs o i::s) h).nx (λZ Z z=>z) λw CC j1 I4 h=>((ih j1 (G2 (D8 I4))).ev (s:=.ao w i::s) h).nx (λZ Z z=>z) λa Bf j2 I5 h=>
  ((ih j2 (Gf (D8 I5) (G2 (D8 I4)))).ev (s:=.aq w a::s) h).nx (λZ Z z=>z) λb DC j3 Uo h=>JY.mono (λAE m' q=>?_) (Od h (cx c f A env) m)) (AX8 _ _ _ _ _ _)
 obtain⟨rfl,q⟩:=q;cases j3 with
 |zero=>exact q.elim
 |succ j3=>exact Le.mk (Gf (Gf (D8 (D8 Uo)) (D8 I5)) (G2 (D8 I4))) q
theorem AV5(h:run c n f (.ev v) (.Vn o a::s) V m K):TR (cx c f A env) RF (Cj (.Assign [.Attribute o a q] v p) env) V m (E0 c f (n+1) s K):=by
 refine AZ4 ((Fi ih (s':=.Vn o a::s) h).nx (λZ Z z=>z) λw CC j1 I4 h=>((ih j1 (G2 (D8 I4))).ev (s:=.aX w a::s) h).nx (λZ Z z=>z) λb Bf j2 I5 h=>?_) (AX7 _ _ _ _ _ _);refine(Od h).elim λx z=>z.elim λc' z=>z.elim λd z=>z.elim λks z=>z.elim λvs z=>(D_ x c' d ks vs (An z.1 z.2.1 (z.2.2.1 _) z.2.2.2.1 ?_));cases j2 with
 |zero=>exact z.2.2.2.2.elim
 |succ j2=>exact Le.mk (Gf (D8 (D8 I5)) (G2 (D8 I4))) z.2.2.2.2
theorem o8(h:run c n f (.ev v) (.ta (.Tuple es k q)::s) V m K):TR (cx c f A env) VR (Ab v env) V m λv V m=>TA (cx c f A env) (.Tuple es k q) v V m λV m=>E0 c f (n+1) s K .next V m:=
 (Fi ih h).nx (λZ Z z=>z) λw CC j hj h=>((ih j (G2 (D8 hj))).asg (s:=.ur::s) h).mono λAE m' q=>q.elim (λz=>z) λi hi h=>Le.mk (Gf (D8 hi) (G2 (D8 hj))) h
theorem AV8(h:fin c (run c n) f K (gd ((es.filterMap (GW es)).all λx=>BG m x&&!f.C.contains x) (og (Na es vs) (λo=>match o with
 |none=>.go (.ev (.Tuple vs k2 q2)) (.ta (.Tuple es k q)::s) V m
 |some names=>.go (.ev (.Tuple vs k2 q2)) (.sw names::s) V m)
 (.E_ (.Assign [.Tuple es k q] (.Tuple vs k2 q2) p) s V m)) (.E_ (.Assign [.Tuple es k q] (.Tuple vs k2 q2) p) s V m))):TR (cx c f A env) RF (Cj (.Assign [.Tuple es k q] (.Tuple vs k2 q2) p) env) V m (E0 c f (n+1) s K):=by
 refine Dn (b:=(es.filterMap (GW es)).all λx=>BG m x&&!f.C.contains x) h (λe h=>Fl (o:=Na es vs) h (λr e2 h=>?_) λZ h=>GV ih h) λZ h=>GV ih h;cases r with
 |none=>exact AZ8 (names:=es.filterMap (GW es)) (pI rfl e2) (ke e) (o8 ih h) (Rr (v:=.Tuple vs k2 q2) rfl (some (.Tuple es k q)) p.line env)
 |some names=>
  obtain en:=AX9 e2;subst en;refine Aa1 (names:=es.filterMap (GW es)) (pI rfl e2) (ke e) ((Fi ih h).nx (λZ Z z=>z) λw CC j hj h=>?_) (Rr (v:=.Tuple vs k2 q2) rfl (some (.Tuple es k q)) p.line env);refine Fl (o:=bN w) h (λCY e1 h=>Dn (b:=CY.length==(es.filterMap (GW es)).length&&(es.filterMap (GW es)).all λx=>BG m x) h (λe3 h=>?_) λZ h=>h.elim) λZ h=>h.elim;obtain e4:=D4 e3;exact⟨CY,(BR (Ag1 e1) (beq_iff_eq.mp e4.1) (λx hx=>Il.mp e4.2 x hx) (.mk (G2 (D8 hj)) h))⟩
omit ih in
theorem yL(h:isTup v=false):PW [.Tuple es k q] v env=pure none:=by cases v<;>first|rfl|exact absurd (show true=false from h) (by decide)
theorem AV4{ts:List Expr}{v:Expr}{p:G4}(h:fin c (run c n) f K (step f (.st (.Assign ts v p)) s V m)):TR (cx c f A env) RF (Cj (.Assign ts v p) env) V m (E0 c f (n+1) s K):=by
 cases ts with
 |nil=>exact GV ih h
 |cons t ts=>
 cases ts with
 |cons _ _=>exact GV ih h
 |nil=>
 cases t with
 |Name x q=>exact Dn (b:=NT v) h (λe h=>pd ((Fi ih h).nx (λZ Z z=>z) λw AE j hj h=>oq ih (D8 hj) h) (Rr e _ _ _)) λe h=>AF3 h (λAv g scope cp e h=>by subst e;exact AV6 ih h) λh=>GV ih h
 |Subscript o i q=>exact AV7 ih h
 |Attribute o a q=>exact AV5 ih h
 |Tuple es k q=>exact Ag2 h (λvs k2 q2 e h=>by subst e;exact AV8 ih h) λe0 h=>Dn (b:=NT v) h (λe h=>pf (o8 ih h) (Rr e (some (.Tuple es k q)) p.line env) (yL e0)) λZ h=>GV ih h
 |_=>exact GV ih h
theorem AW5(h:fin c (run c n) f K (step f (.st (.Return v p)) s V m)):TR (cx c f A env) RF (Cj (.Return v p) env) V m (E0 c f (n+1) s K):=by
 obtain L:=CP n;cases v with
 |none=>exact Ac5 (.mk L h)
 |some e=>exact Ac4 ((Fi ih (s':=.ret::s) h).nx (λZ Z z=>z) λw AE j hj h=>.mk (Ci hj) h)
theorem AW4(h:fin c (run c n) f K (step f (.st (.Pass p)) s V m)):TR (cx c f A env) RF (Cj (.Pass p) env) V m (E0 c f (n+1) s K):=by
 obtain L:=CP n;exact Ac3 (.mk L h)
theorem AW0(h:fin c (run c n) f K (step f (.st (.Break p)) s V m)):TR (cx c f A env) RF (Cj (.Break p) env) V m (E0 c f (n+1) s K):=by
 have L:=CP n;exact Aa7 (.mk L h)
theorem AW1(h:fin c (run c n) f K (step f (.st (.Expr e p)) s V m)):TR (cx c f A env) RF (Cj (.Expr e p) env) V m (E0 c f (n+1) s K):=by
 obtain L:=CP n;exact Dn (b:=NT e) h (λe1 h=>Ab3 ((Fi ih (s':=.nx::s) h).nx (λZ Z z=>z) λw AE j hj h=>.mk (Ci hj) h) (Rr e1 _ _ _)) λZ h=>GV ih h
theorem AW3(h:fin c (run c n) f K (step f (.st (.If t a b p)) s V m)):TR (cx c f A env) RF (Cj (.If t a b p) env) V m (E0 c f (n+1) s K):=by
 obtain L:=CP n;refine Ab6 (((ih n L).ts (s:=.if a b::s) h).nx (λZ Z z=>z) λk AE j hj h=>?_);cases k with
 |true=>exact((ih j (Ci hj)).ss (FC h)).mono λr AE m' q=>q.up (MU hj)
 |false=>exact((ih j (Ci hj)).ss (FC h)).mono λr AE m' q=>q.up (MU hj)
theorem AW6(h:fin c (run c n) f K (step f (.st (.While t b o p)) s V m)):TR (cx c f A env) RF (Cj (.While t b o p) env) V m (E0 c f (n+1) s K):=by
 obtain L:=CP n;(refine Ao (Stop.go (show Stop (Xf (run c n f) t b o V m λr AE m'=>run c n f (.res r) s AE m' K)from h)) λI n0 AR=>?_;obtain h0:=AR.1;obtain turn:=AR.2);refine Ad1 I n0 h0 λk V m hI=>((ih n L).ts (turn k V m hI)).nx (λZ Z z=>z) λbb AE j hj h=>?_;cases bb with
 |true=>exact gX ih (AM 0x11210000101200329 rfl hj) (FC h) λr V m q=>by cases r<;>first|exact q|exact Le.mk L q
 |false=>exact iU ih (AM 0x11210000101200329 rfl hj) (FC h) λr V m q=>.mk L q
theorem AW2(h:fin c (run c n) f K (step f (.st (.For t i b o p)) s V m)):TR (cx c f A env) RF (Cj (.For t i b o p) env) V m (E0 c f (n+1) s K):=by
 obtain L:=CP n;refine Dn (b:=aQ i) h (λe h=>?_) λZ h=>GV ih h;refine Ab4 ((Fi ih h).nx (λZ Z z=>z) λv CC j hj h=>?_) (λx=>AD3 e x _);(refine Ao (Stop.go (show Stop (TK (run c j f) v t b o CC m λr AE m'=>run c j f (.res r) s AE m' K)from h)) λitems P Af=>?_;obtain io:=Af.1;obtain AX:=Af.2;refine AI AX λI A9=>?_;obtain i1:=A9.1;obtain i2:=A9.2.1;obtain i3:=A9.2.2.1;obtain turn:=A9.2.2.2.1;obtain fin:=A9.2.2.2.2);refine(Aj items P ⟨io,⟨I,(An i1 i2 i3 (λmv AN V m hI=>((ih j (Ci hj)).asg (turn mv AN V m hI)).mono λV m q=>q.elim (λz=>z) λi hi h=>?_) (λV m hI=>?_))⟩⟩)
 ·exact gX ih (AQ 0x111310000201200329101220329 rfl hj hi) h λr V m q=>by cases r<;>first|exact q|exact Le.mk (Ci hj) q
 ·exact iU ih (AM 0x11210000101200329 rfl hj) (fin V m hI) λr V m q=>Le.mk (Ci hj) q
theorem AV9(h:fin c (run c n) f K (step f (.st (.AugAssign t op v p)) s V m)):TR (cx c f A env) RF (Cj (.AugAssign t op v p) env) V m (E0 c f (n+1) s K):=by
 obtain L:=CP n;cases t with
 |Name x q=>
  cases op with
  |Add=>
   refine Dn (b:=MC x) h (λe1 h=>Fl (o:=(CT m x).bind intOf) h (λi e2 h=>?_) λZ h=>GV ih h) λZ h=>GV ih h;have e3:CT m x=some (.int i):=by
    cases e4:CT m x with
    |none=>rw[e4]at e2;exact nS e2
    |some w=>rw[e4]at e2;exact AD (RK e2) rfl
   exact Aa3 e3 ((Fi ih (s':=.ag x i::s) h).nx (λZ Z z=>z) λw AE j hj h=>Fl (o:=intOf w) h (λk e5 h=>Dn (b:=BG m x) h (λe6 h=>⟨k,(AO (RK e5) e6 (.mk (Ci hj) h))⟩) λZ h=>h.elim) λZ h=>h.elim) (NU e1).1 (NU e1).2
  |_=>exact GV ih h
 |_=>exact GV ih h
theorem ou(h:fin c (run c n) f K (step f (.st x) s V m)):TR (cx c f A env) RF (Cj x env) V m (E0 c f (n+1) s K):=by
 cases x with
 |Assign ts v p=>exact AV4 ih h
 |Return v p=>exact AW5 ih h
 |Pass p=>exact AW4 ih h
 |Break p=>exact AW0 ih h
 |Expr e p=>exact AW1 ih h
 |If t a b p=>exact AW3 ih h
 |While t b o p=>exact AW6 ih h
 |For t i b o p=>exact AW2 ih h
 |AugAssign t op v p=>exact AV9 ih h
 |_=>exact GV ih h
theorem AU9(h:run c (n+1) f (.st x) s V m K):TR (cx c f A env) RF (Cj x env) V m (E0 c f (n+1) s K):=
 oV h (λZ Z Z z h=>Ae2 ((ou ih h).I' (λZ Z Z z=>z) λr AE m' j hj h=>.mk (D8 hj) (Stop.go (show Stop (run c j f (.res r) s AE m' K)from h))) z) λZ h=>ou ih h
end
theorem snd(c):∀n,T6 c n:=λn=>by
 induction n using uN with
 |ind n ih=>
  cases n with
  |zero=>exact⟨λh=>h.elim,λh=>h.elim,λh=>h.elim,λZ h=>h.elim,λh=>h.elim,λh=>h.elim,λh=>h.elim,λh=>h.elim,λZ h=>h.elim⟩
  |succ n=>exact⟨AU6 ih,AV0 ih,AU2 ih,AU3 ih,AU7 ih,AU9 ih,AU8 ih,AU4 ih,AU5 ih⟩
def oK(Q:MV->Hp->Prop)(o:Out)(V:Hp)(_:Lc):Prop:=
 match o with
 | .r (.ret v)=>Q v V
 | .r .next=>Q .none V
 |_=>False
theorem YH(B)
 (F:FD w.params f fd body) (Yl:∀vs,vs.length=HD.length->∀S,peek (KK w.params) S (gV fd ⟨vs,[]⟩)=some (ps.zip (vs++dv)))
 (Yo:∀D h,AY w D h dm dv) (NH:ps.Nodup) (hk:ZS fd.scope.names C (ps++ls)=true) (hG:G.all (λx=>fd.scope.names.lookup x==some .globalImplicit)=true)
 (h:run ⟨w,h₀⟩ 5000 ⟨n,G,C,B⟩ (.ss body) [] V (L0 ps (HD++dm) ls) (oK Q)):Ag w h₀ (n+1) f HD V Q:=
 yR F Yl Yo NH hk hG λA env Z=>((snd ⟨w,h₀⟩ 5000).ss (A:=A) (env:=env) h).I' (λZ Z Z z=>z) λr V m j Z h=>by cases r<;>exact h
theorem Ak7{K s D}(hs:St X D s.heap V m)(h:Aq (A7 BJ X.w) X.A t (AW X VR D s V λv AE m'=>m'=m/\Cv K v AE) Dr s):Aq (A7 BJ X.w) X.A t (AW X VR D s V λv AE m'=>m'=m/\K v AE) Dr s:=
 Bz h (λa AJ p=>by
  (refine Bc p λmv Ad m₁ Ac AR=>?_;refine Em AR λh1 h2 h3 h4 C4 h5=>?_;clear AR;try clear p;(try clear h;subst C4));(refine A1 (Cv.NW h5 (w:=X.w) (h₀:=X.h₀) (s:=AJ) (s':=AJ) (LD:=Ac) (KG:=Ad) h1.rs Step.refl h1.rs.live CV.refl h4) λF5 AE D' AX=>?_;refine Cu AX λk1 k2 k3 k4 k5=>?_;clear AX);exact(Ar F5 AE m₁ D' (Cc (h1.next k1 k2) (h2.trans hs.rs.live k2.Hn) h3 k4 rfl k5))) λZ Z x=>x
theorem wo{a b V K}(h:ask c (.op o a b) V (Cv K)):ask c (.op o a b) V K:=λX m s D u v x y z=>Ak7 x (h X m s D u v x y z)
theorem Cv.E6{K V p l}(np:¬foot V p)(h:K (.lst l) V):Cv K (.ref p) (V.set p (.list l)):=.list AS (.done (by refine AD (Gh np) ?_;exact h))
theorem u_{c x V K K'}(h:ask c x V K)(k:∀v V,K v V->K' v V):ask c x V K':=by
 have k2:∀{m:Lc}(b:MV)V m',m'=m/\K b V->m'=m/\K' b V:=λb V m' q=>⟨q.1,k _ _ q.2⟩;cases x with
 |op o a b=>exact λX m=>BO.mono k2 (h X m)
 |cmp o a b=>exact λX m=>BO.mono k2 (h X m)
 |sub a b=>exact λX m v s ns=>BO.mono k2 (h X m v s ns)
 |sl t a lo hi=>exact(AO h.1 h.2.1 (h.2.2.elim (λq=>.inl ⟨q.1,q.2.elim λl q=>⟨l,(AO q.1 q.2.1 (k _ _ q.2.2))⟩⟩) λq=>.inr (q.elim λl q=>⟨l,(AO q.1 q.2.1 (k _ _ q.2.2))⟩)))
 |rev a=>exact h.elim λl q=>⟨l,(AO q.1 q.2.1 (k _ _ q.2.2))⟩
 |attr name a=>exact λX m=>KR.mono k2 (h X m)
 |Jr name a=>exact h.elim (λMT=>by(refine Bc MT λc' ks vs f AR=>?_;obtain a:=AR.1;obtain b:=AR.2.1;obtain d:=AR.2.2.1;obtain e:=AR.2.2.2;clear AR;try clear MT);exact .inl (Ar c' ks vs f (BR a b d (k _ _ e)))) λPl=>by(refine A1 Pl λT id j Af=>?_;obtain a:=Af.1;obtain b:=Af.2.1;obtain d:=Af.2.2.1;obtain e:=Af.2.2.2;clear Af;try clear Pl);exact .inr (BK T id j (BR a b d (k _ _ e)))
 |fn j f l=>exact Ag.mono h k
 |bi v l=>exact λX m=>Dk.mono k2 (h X m)
 |list l=>exact h.elim (λq=>.inl (k _ _ q)) λq=>.inr λa na=>k _ _ (q a na)
 |dict=>exact h.elim (λq=>.inl λa na=>k _ _ (q a na)) λq=>.inr λa na=>k _ _ (q a na)
 |put a i v=>exact λX m=>JY.mono (λV m' q=>⟨q.1,k _ _ q.2⟩) (h X m)
 |Vo a name v=>exact h.elim λx WG=>by(refine Bc WG λc' d ks vs AX=>?_;obtain e1:=AX.1;obtain e2:=AX.2.1;obtain e3:=AX.2.2.1;obtain e4:=AX.2.2.2.1;obtain q:=AX.2.2.2.2;clear AX;try clear WG);exact(D_ x c' d ks vs (An e1 e2 e3 e4 (k _ _ q)))
theorem Ai8{I n K K'}(k:∀r V m,K r V m->K' r V m)(o)(V)(m)(q:V' I n K o V m):V' I n K' o V m:=by
 cases o with
 |l r=>
  cases r with
  |brk=>exact k _ _ _ q
  |ret v=>exact k _ _ _ q
  |_=>exact q
 |r r=>exact k _ _ _ q
 |_=>exact q
theorem yJ{I AN K K'}(k:∀r V m,K r V m->K' r V m)(o)(V)(m)(q:Qq I AN K o V m):Qq I AN K' o V m:=by
 cases o with
 |l r=>
  cases r with
  |brk=>exact k _ _ _ q
  |ret v=>exact k _ _ _ q
  |_=>exact q
 |_=>exact q
theorem AS2{K K'}(k:∀r V m,K r V m->K' r V m)(o)(V)(m)(q:R6 K o V m):R6 K' o V m:=by
 cases o with
 |r r=>exact k _ _ _ q
 |_=>exact q
theorem sC{K:Ks}(hR:∀{x s V m}{K K':Ks},R x s V m K->(∀o V m,K o V m->K' o V m)->R' x s V m K')(h:N3 R Av ifs V m K):N3 R' Av ifs V m K:=by
 cases ifs with
 |nil=>exact hR h λZ Z Z q=>q
 |cons t r=>
  cases r with
  |nil=>exact hR h λZ Z Z q=>q
  |cons _ _=>exact h.elim
theorem iy{K K':Ks}(hR:∀{f x s V m}{K K':Ks},R f x s V m K->(∀o V m,K o V m->K' o V m)->R' f x s V m K')(k:∀o V m,K o V m->K' o V m){x:Mv}(h:fin c R f K x):fin c R' f K' x:=by
 cases x with
 |go x s V m=>exact hR h k
 |stop q s V m=>exact AA (u_ (Stop.go h) λv V q=>hR q k)
 |IS b x y s t V m=>
  obtain h:=Stop.go h;cases b with
  |true=>exact AA (hR h k)
  |false=>exact AA (show H6 false _ _ from hR h k)
 |out o V m=>exact k _ _ _ h
 |EK e s V m=>exact AA λA env=>(Stop.go h A env).mono λv V m q=>⟨q.1,hR q.2 k⟩
 |E_ x s V m=>exact AA λA env=>(Stop.go h A env).mono λv V m q=>hR q k
 |bV t b o s V m=>
  (refine Ao (Stop.go h) λI n A9=>?_;obtain h0:=A9.1;obtain turn:=A9.2;clear A9);exact AA (Aj I n ⟨h0,(λn V m hI=>hR (turn n V m hI) (Ai8 λZ Z Z q=>hR q k))⟩)
 |«for» v t b o s V m=>
  (refine Ao (Stop.go h) λitems P Ai=>?_;obtain io:=Ai.1;obtain A5:=Ai.2;refine AI A5 λI A6=>?_;obtain i1:=A6.1;obtain i2:=A6.2.1;obtain i3:=A6.2.2.1;obtain turn:=A6.2.2.2.1;obtain fin:=A6.2.2.2.2;clear A6 A5 Ai);exact AA (Aj items P ⟨io,⟨I,(An i1 i2 i3 (λmv AN V m hI=>hR (turn mv AN V m hI) (yJ λZ Z Z q=>hR q k)) (λV m hI=>hR (fin V m hI) (AS2 λZ Z Z q=>hR q k)))⟩⟩)
 |comp v Av t ifs scope s V m=>
  (refine Ao (Stop.go h) λitems P A2=>?_;obtain io:=A2.1;obtain BC:=A2.2;refine AI BC λI BM=>?_;obtain i1:=BM.1;obtain i2:=BM.2.1;obtain i3:=BM.2.2.1;obtain turn:=BM.2.2.2.1;obtain fin:=BM.2.2.2.2;clear BM BC A2);refine AA (Aj items P ⟨io,⟨I,(An i1 i2 i3 (λmv AN l V g hI=>?_) (λl V hI a na=>(fin l V hI a na).mono λv V q=>hR q k))⟩⟩);(refine AI (turn mv AN l V g hI) λb Bx=>?_;obtain hb:=Bx.1;obtain IC:=Bx.2.1;obtain hr:=Bx.2.2;clear Bx);refine⟨b,(AO hb IC ?_)⟩;exact sC (λh k=>hR h k) hr
 |aL r s V m=>exact AA (hR (Stop.go h) k)
 |bad=>exact h.elim
theorem AS4:∀{n' f x s V m}{K K':Ks},n<=n'->run c n f x s V m K->(∀o V m,K o V m->K' o V m)->run c n' f x s V m K':=by
 induction n with
 |zero=>exact λZ h Z=>h.elim
 |succ n ih=>
  intro n' _ _ _ _ _ _ _ l h k;cases n' with
  |zero=>exact absurd l (Nat.not_succ_le_zero n)
  |succ n'=>exact oV h (λe AE m' z h=>oW (λZ=>(Aj AE m' ⟨z,(iy (c:=c) (R:=run c n) (R':=run c n') (λh k=>ih (uD l) h k) k h)⟩)) λe2=>absurd (e.symm.trans e2) (by decide)) λe h=>oW (λe2=>absurd (e2.symm.trans e) (by decide)) λZ=>iy (c:=c) (R:=run c n) (R':=run c n') (λh k=>ih (uD l) h k) k h
section
variable{c:CW}{f:Fr}{s:List Co}{V:Hp}{m:Lc}{K:Ks}{n:Nat}
theorem oa(m')(e:m=m')(h:fin c R f K (step f x s V m')):fin c R f K (step f x s V m):=e▸h
theorem HH(m')(e:m=m')(h:run c n f x s V m' K):run c n f x s V m K:=e▸h
theorem SI{P:Hp->Lc->Prop}(h:P V m):∃AE m',Fz AE m' V m/\P AE m':=(Aj V m ⟨.refl,h⟩)
theorem V6{P:Hp->Lc->Prop}{a:AU}{mo:MO}(e:V a=some mo)(m2:Lc)(em:IU a (E6 mo) m=m2)(h:∃AE m',Fz AE m' (V.del a) m2/\P AE m'):∃AE m',Fz AE m' V m/\P AE m':=by
 subst em;exact h.elim λAE h=>h.elim λm' h=>(Aj AE m' ⟨(.step e h.1),h.2⟩)
theorem iD(k:Nat)(P:Hp->Lc->Prop)(AN:∀AE m',P AE m'->run c k f (.res .next) s AE m' K)(first:(∀AE m' j,P AE m'->Mq k j=true->run c j f (.res .next) s AE m' K)->fin c (run c n) f K (step f (.st x) (.ps::s) V m)):
 fin c (run c n) f K (step f (.st x) (.ps::s) V m):=first λAE m' j p h=>AS4 (QJ h) (AN AE m' p) λZ Z Z q=>q
end
section
theorem BW[Decidable p](h1:p->A)(h2:¬p->B):H6 (decide p) A B:=AD1 h1 h2
theorem GU[Decidable p](h1:¬p->A)(h2:p->B):H6 (!decide p) A B:=AK2 h1 h2
theorem Vr(h1:b=true->A)(h2:b=false->B):H6 b A B:=AD0 h1 h2
theorem NY{a b:Int}(h1:a≠b->A)(h2:a=b->B):H6 (a != b) A B:=AI8 h1 h2
theorem F6{a b:Int}(h1:a=b->A)(h2:a≠b->B):H6 (a==b) A B:=xK h1 h2
theorem IT(h:A):H6 true A B:=h
theorem De(h:B):H6 false A B:=by unfold H6;exact h
end
section
variable{R:Rn}{V:Hp}{m:Lc}{K:Res->Hp->Lc->Prop}{t:Expr}{b o:List E5}
theorem EO(I)(io:FF v V items P)(hP:∀mv AN V m,I (mv::AN) V m->P V)(F2:∀V m,I [] V m->P V)(h0:I items V m)
 (turn:∀mv AN V m,I (mv::AN) V m->R (.asg t mv) [.fr b] V m (Qq I AN K)) (fin:∀V m,I [] V m->R (.ss o) [] V m (R6 K)):TK R v t b o V m K:=(Aj items P ⟨io,⟨I,(An hP F2 h0 turn fin)⟩⟩)
theorem Ah3(I)(h0:I l V m)(turn:∀mv AN V m,I (mv::AN) V m->R (.asg t mv) [.fr b] V m (Qq I AN K))(fin:∀V m,I [] V m->R (.ss o) [] V m (R6 K)):TK R (.lst l) t b o V m K:=
 (Aj l _ ⟨(.lst _ _),⟨I,(An (λZ Z Z Z Z=>trivial) (λZ Z Z=>trivial) h0 turn fin)⟩⟩)
theorem J8(I)(n)(h0:I n V m)(turn:∀n V m,I n V m->R (.ts t) [.wh b o] V m (V' I n K)):Xf R t b o V m K:=(Aj I n ⟨h0,turn⟩)
variable{Av A4:Expr}{ls fs:List AV}{K:MV->Hp->Prop}
theorem bT(I)(io:FF v V items P)(hP:∀mv AN l V,I (mv::AN) l V->P V)(F2:∀l V,I [] l V->P V)(h0:I items [] V)(hx:ls.contains x=true)
 (turn:∀mv AN l V f,I (mv::AN) l V->N3 R Av ifs V (C9 ls (IA [(x,mv)] f) fs m) (UP l I AN))
 (fin:∀l V,I [] l V->∀a,¬foot V a->Cv K (.ref a) (V.set a (.list l))):N2 R v Av (.Name x px) ifs ls fs V m K:=
 ⟨items,P,io,I,hP,F2,h0,λmv AN l V f h=>⟨_,rfl,by simpa using hx,by
  exact turn mv AN l V f h⟩,fin⟩
theorem SJ{α:Type}(f:α->MV){px ifs}{as:List α}{P:Hp->Prop}(p:α->Bool)(g:α->MV)(io:FF v V (as.map f) P)(hP:P V)(hz:as.length<=100000)(hx:ls.contains x=true)
 (turn:∀a h(K':Ks),a∈as->(∀m,p a=true->K' (.v (g a)) V m)->(∀m,p a=false->K' (.b false) V m)->N3 R Av ifs V (C9 ls (IA [(x,f a)] h) fs m) K')
 (q:K (.lst ((as.filter p).map g)) V):N2 R v Av (.Name x px) ifs ls fs V m K:=by
 refine bT (λAN l AE=>AE=V/\∃d r,as=d++r/\AN=r.map f/\l=(d.filter p).map g) io (λZ Z Z Z z=>z.1▸hP) (λZ Z z=>z.1▸hP) ⟨rfl,(Aj ([]) as (AO rfl rfl rfl))⟩ hx (λmv AN l AE h z=>?_) λl AE z a na=>?_
 ·(obtain JK:=z.1;obtain Bj:=z.2;refine Ao Bj λd r B0=>?_;obtain hd:=B0.1;obtain hr:=B0.2.1;obtain hl:=B0.2.2;clear B0 Bj;try clear z;subst JK);cases r with
  |nil=>exact cN hr
  |cons y r=>
   (obtain zI:=N9 hr;obtain zJ:=zI.1;obtain zK:=zI.2;clear zI;subst zJ;subst zK);obtain Gj:as=(d++[y])++r:=by apply AG hd;simp
   obtain this:=turn y h (UP l (λAN l DV=>DV=AE/\∃d r,as=d++r/\AN=r.map f/\l=(d.filter p).map g) (r.map f)) (by refine AD hd ?_;simp) (λm e=>by
    refine(AO ?_ rfl (Aj (d++[y]) r (AO Gj rfl (by refine AD (QC ..)<|AD hl ?_;simp[e]))));refine AD hl<|AD (Fc ..) ?_
    obtain this:=QD p d;obtain e:=congrArg Tb hd;simp at e;exact qt hz this e) λm e=>⟨rfl,(Aj (d++[y]) r (AO Gj rfl (by refine AD (QC ..)<|AG hl ?_;simp[e])))⟩
   exact this
 ·(obtain Hu:=z.1;obtain Cg:=z.2;refine Ao Cg λd r Bt=>?_;obtain hd:=Bt.1;obtain hr:=Bt.2.1;obtain hl:=Bt.2.2;clear Bt Cg;try clear z;subst Hu);cases r with
  |cons _ _=>exact nC hr
  |nil=>
   rw[HS]at hd;refine .E6 na ?_;refine AD hl<|AD (A0 hd) ?_;exact q
theorem Pe{ns:List Int}(p)(g:Int->MV)(io:FF v V (ns.map .int) P)(hP:P V)(hz:ns.length<=100000)(hx:ls.contains x=true)
 (turn:∀k f(K':Ks),k∈ns->(∀m,p k=true->K' (.v (g k)) V m)->(∀m,p k=false->K' (.b false) V m)->N3 R Av ifs V (C9 ls (IA [(x,.int k)] f) fs m) K')
 (q:K (.lst ((ns.filter p).map g)) V):N2 R v Av (.Name x px) ifs ls fs V m K:=SJ .int p g io hP hz hx turn q
end
section
variable{c:CW}{V:Hp}{K:MV->Hp->Prop}
theorem CR(hl:B_ V a l)(h0:0<=k)(hk:k<2^63)(hx:l[k.toNat]? =some x)(q:K x V):ask c (.sub a (.int k)) V K:=λX m v s ns=>o_item hl h0 hk hx ⟨rfl,q⟩ ns
theorem V7(hl:B_ V a l)(h0:k<0)(h1:-(l.length:Int)<=k)(hk:-2^63<=k)(hx:l[(k+l.length).toNat]? =some x)(q:K x V):ask c (.sub a (.int k)) V K:=λX m v s ns=>AL1 hl h0 h1 hk hx ⟨rfl,q⟩ ns
theorem J4(hj:seqIndex? k l.length=some j)(Ca:-2^63<=k)(EY:k<2^63)(hx:l[j]? =some x)(q:K x V):ask c (.sub (.tup l) (.int k)) V K:=λX m v s ns=>AL2 hj Ca EY hx ⟨rfl,q⟩ ns
theorem Hr(h0:0<=k)(h1:k<l.length)(hz:l.length<=1000000)(q:K (.int (l.getD k.toNat 0)) V):ask c (.sub (.bytes l) (.int k)) V K:=λX m v s ns=>AL0 h0 h1 hz ⟨rfl,q⟩ ns
theorem V5(ha:Lv V a l)(hk:Ak l k=some v)(q:K (.int v) V):ask c (.sub a (.int k)) V K:=λX m v s ns=>AK8 ha hk ⟨rfl,q⟩ ns
theorem Nf(ha:Jn V a l)(hk:Ak l (i,j)=some v)(q:K (.int v) V):ask c (.sub a (.tup [.int i,.int j])) V K:=λX m v s ns=>AL6 ha hk ⟨rfl,q⟩ ns
theorem Ax(i:EI V a c' ks vs)(g:∀P,GA P c' name)(hg:H7 ks vs name=some mv)(q:K mv V):ask c (.attr name a) V K:=λX m=>o_attr i (g _) hg ⟨rfl,q⟩
theorem Df(hx:V x=some (.inst c' d ks vs))(g:∀P,GS P c' name)(hz:ks.length<=100)(q:K .none (V.set x (.inst c' d (DY ks name) (Ds ks vs name v)))):ask c (.Vo (.ref x) name v) V K:=(D_ x c' d ks vs (An rfl hx g hz q))
theorem Bw(i:EI V a c' ks vs)(nk:name∉ks)(g:∀P,GM P c' name f)(q:K (.ref f) V):ask c (.Jr name a) V K:=.inl (Ar c' ks vs f (BR i nk g q))
theorem FN(ha:B_ V a l)(q:K (.int 0) V):ask c (.Jr "append" a) V K:=.inr (BK _ _ 0 (BR yS rfl (λX m=>ZM ha) q))
theorem qE(ha:B_ V a l)(q:K (.int 1) V):ask c (.Jr "pop" a) V K:=.inr (BK _ _ 1 (BR yU rfl (λX m=>ZM ha) q))
theorem qD(ha:B_ V a l)(q:K (.int 2) V):ask c (.Jr "index" a) V K:=.inr (BK _ _ 2 (BR yT rfl (λX m=>ZM ha) q))
theorem Kw(ha:Lv V a l)(q:K (.int 3) V):ask c (.Jr "get" a) V K:=.inr (BK _ _ 3 (BR jL rfl (λX m=>AC8 ha) q))
theorem Ah6(q:K (.int 4) V):ask c (.Jr "bit_length" (.int i)) V K:=.inr (BK _ _ 4 (BR jK rfl (λX m=>lW) q))
theorem CU(q:K (.lst l) V):ask c (.list l) V K:=.inl q
theorem JI(q:∀a,¬foot V a->K (.ref a) (V.set a (.list l))):ask c (.list l) V K:=.inr q
theorem Pc(q:∀d,¬foot V d->K (.ref d) (V.set d (.di []))):ask c .dict V K:=.inl q
theorem Ah2(q:∀d,¬foot V d->K (.ref d) (V.set d (.dp []))):ask c .dict V K:=.inr q
theorem w_up(e:Mq j k=true)(h:Ag c.w c.h j f l V K):ask c (.fn k f l) V K:=Ag.AH2 e h
theorem IW{l t lo hi}(hz:l.length<=100000)(n1:NN lo)(n2:NN hi)(q:K (.bytes (A3 l lo hi)) V):ask c (.sl t (.bytes l) lo hi) V K:=(AO n1 n2 (.inr ⟨l,(AO rfl hz q)⟩))
theorem Ng{l a lo hi}(hl:B_ V a l)(hz:l.length<=100000)(n1:NN lo)(n2:NN hi)(q:K (.lst (A3 l lo hi)) V):ask c (.sl true a lo hi) V K:=(AO n1 n2 (.inl ⟨rfl,⟨l,(AO hl hz q)⟩⟩))
theorem w_rev(hl:B_ V a l)(hz:l.length<=100000)(q:K (.lst l.reverse) V):ask c (.rev a) V K:=⟨l,(AO hl hz q)⟩
theorem w_mul(h1:-(2^64)<a)(h2:a<2^64)(q:K (.int (a*b)) V):ask c (.op .Mult (.int a) (.int b)) V K:=λX m=>AL4 h1 h2 ⟨rfl,q⟩
theorem w_mod(h1:b≠0)(q:K (.int (a.fmod b)) V):ask c (.op .Mod (.int a) (.int b)) V K:=λX m=>AL3 h1 ⟨rfl,q⟩
theorem w_div(h1:b≠0)(h2:b.natAbs<2^64)(q:K (.int (a.fdiv b)) V):ask c (.op .FloorDiv (.int a) (.int b)) V K:=λX m=>AK9 h1 h2 ⟨rfl,q⟩
theorem w_pow(h0:0<=b)(h1:b<=1000000)(h2:a.natAbs<2^64)(q:K (.int (a^b.toNat)) V):ask c (.op .Pow (.int a) (.int b)) V K:=λX m=>AL7 h0 h1 h2 ⟨rfl,q⟩
theorem w_shr(h0:0<=b)(q:K (.int (a.fdiv (2^b.toNat))) V):ask c (.op .RShift (.int a) (.int b)) V K:=λX m=>AL8 h0 ⟨rfl,q⟩
theorem w_and(q:K (.int (eT a b)) V):ask c (.op .BitAnd (.int a) (.int b)) V K:=λX m=>AK7 ⟨rfl,q⟩
theorem J'{k:Int}(e:V a=some (.list l))(h0:0<=k)(hk:k<2^63)(h1:k<l.length)(q:K .none (V.set a (.list (l.set k.toNat v)))):ask c (.put (.ref a) (.int k) v) V K:=λX m=>AP2 e h0 hk h1 ⟨rfl,q⟩
theorem bS(ha:B_ V a l)(hb:B_ V b r)(hz:l.length+r.length<=100000)(q:∀p,¬foot V p->K (.ref p) (V.set p (.list (l++r)))):ask c (.op .Add a b) V K:=λX m=>AK6 ha hb hz (λp h0=>⟨rfl,q p h0⟩)
theorem Pd(ha:B_ V a [x])(h1:k<=100000)(h0:-100000<=k)(q:∀p,¬foot V p->K (.ref p) (V.set p (.list (CD k.toNat x)))):ask c (.op .Mult a (.int k)) V K:=λX m=>AL5 ha h1 h0 (λp h0=>⟨rfl,q p h0⟩)
theorem J5(ha:B_ V a l)(hz:l.length<=1000000)(q:K (.int l.length) V):ask c (.bi (.builtin "len") [a]) V K:=λX m=>AN1 ha hz ⟨rfl,q⟩
theorem FL(hz:l.length<=1000000)(q:K (.int l.length) V):ask c (.bi (.builtin "len") [.bytes l]) V K:=λX m=>AN2 hz ⟨rfl,q⟩
theorem Kx(q:K (.int (max a b)) V):ask c (.bi (.builtin "max") [.int a,.int b]) V K:=λX m=>AN4 ⟨rfl,q⟩
theorem Ky(q:K (.int (min a b)) V):ask c (.bi (.builtin "min") [.int a,.int b]) V K:=λX m=>AN5 ⟨rfl,q⟩
theorem SK(q:K (.D2 0 b) V):ask c (.bi (.type "range") [.int b]) V K:=λX m=>AN8 ⟨rfl,q⟩
theorem J7(q:K (.D2 a b) V):ask c (.bi (.type "range") [.int a,.int b]) V K:=λX m=>AN9 ⟨rfl,q⟩
theorem w_sum{ns:List Int}(ha:B_ V a (ns.map .int))(hb:∀x∈ns,0<=x)(Cy:ns.sum<2^60)(q:K (.int ns.sum) V):ask c (.bi (.builtin "sum") [a]) V K:=λX m=>AO1 ha hb Cy ⟨rfl,q⟩
theorem qF(ha:B_ V a (ns.map .int))(Ce:ns≠[])(q:∀x,x∈ns->(∀y∈ns,x<=y)->K (.int x) V):ask c (.bi (.builtin "min") [a]) V K:=λX m=>AN6 ha Ce (λx h0 h1=>⟨rfl,q x h0 h1⟩)
theorem Ag9(ha:B_ V a (ns.map .int))(hr:∀n∈ns,0<=n/\n<256)(hz:ns.length<=100000)(q:K (.bytes ns) V):ask c (.bi (.type "bytes") [a]) V K:=λX m=>AM5 ha hr hz ⟨rfl,q⟩
theorem Ai5(q:K (.bool (a==b)) V):ask c (.cmp .Eq (.bytes a) (.bytes b)) V K:=λX m=>vR ⟨rfl,q⟩
theorem Ai7(q:K (.bool (a != b)) V):ask c (.cmp .NotEq (.bytes a) (.bytes b)) V K:=λX m=>ve ⟨rfl,q⟩
theorem V9(q:K (.bool (a==b)) V):ask c (.cmp .Eq (.str a) (.str b)) V K:=λX m=>vU ⟨rfl,q⟩
theorem qJ(ha:Jn V a l)(q:K (.bool (Ak l (i,j)).isSome) V):ask c (.cmp .In (.tup [.int i,.int j]) a) V K:=λX m=>vY ha ⟨rfl,q⟩
theorem Ni(e:V d=some (.di l))(hz:l.length<=100000)(q:K .none (V.set d (.di (dput l k v)))):ask c (.put (.ref d) (.int k) (.int v)) V K:=λX m=>AP0 e hz ⟨rfl,q⟩
theorem WD(e:V d=some (.dp l))(hz:l.length<=100000)(q:K .none (V.set d (.dp (dput l (i,j) v)))):ask c (.put (.ref d) (.tup [.int i,.int j]) (.int v)) V K:=λX m=>AP1 e hz ⟨rfl,q⟩
theorem FK(e:V d=some (.list l))(hz:l.length<=100000)(q:K .none (V.set d (.list (l++[v])))):ask c (.bi (.builtin "list.append") [.ref d,v]) V K:=λX m=>AM4 e hz ⟨rfl,q⟩
theorem qG(e:V d=some (.list (l++[x])))(hz:l.length<=100000)(q:K x (V.set d (.list l))):ask c (.bi (.builtin "list.pop") [.ref d]) V K:=λX m=>AN7 e hz ⟨rfl,q⟩
theorem qB{ns:List Int}{k:Int}(ha:B_ V a (ns.map .int))(hk:k∈ns)(hz:ns.length<=100000)(q:K (.int (ns.idxOf k:Nat)) V):ask c (.bi (.builtin "list.index") [a,.int k]) V K:=λX m=>AN0 ha hk hz ⟨rfl,q⟩
theorem w_get(ha:Lv V a l)(q:K (.int ((Ak l k).getD d)) V):ask c (.bi (.builtin "dict.get") [a,.int k,.int d]) V K:=λX m=>AM8 ha ⟨rfl,q⟩
theorem Ag8(q:K (.int (Ih i)) V):ask c (.bi (.builtin "int.bit_length") [.int i]) V K:=λX m=>nX ⟨rfl,q⟩
theorem V8(l r:List IP)(ha:B_ V a (l.map IP.mv))(hb:B_ V b (r.map IP.mv))(q:K (.bool (decide (l=r))) V):ask c (.cmp .Eq a b) V K:=λX m=>vT l r ha hb ⟨rfl,q⟩
theorem J9(l r:List IP)(ha:B_ V a (l.map IP.mv))(hb:B_ V b (r.map IP.mv))(q:K (.bool (!decide (l=r))) V):ask c (.cmp .NotEq a b) V K:=λX m=>vf l r ha hb ⟨rfl,q⟩
theorem Ai6{ns:List Int}{k:Int}(hb:B_ V b (ns.map .int))(q:K (.bool (decide (k∈ns))) V):ask c (.cmp .In (.int k) b) V K:=λX m=>vX hb ⟨rfl,q⟩
theorem V_{ns:List Int}{k:Int}(hb:B_ V b (ns.map .int))(q:K (.bool (!decide (k∈ns))) V):ask c (.cmp .NotIn (.int k) b) V K:=λX m=>vg hb ⟨rfl,q⟩
theorem oy(h1:b=false->A)(h2:b=true->B):H6 (!b) A B:=AK1 h1 h2
theorem bR(ha:B_ V a l)(hb:B_ V b r)(hz:l.length+r.length<=100000)(q:K (.lst (l++r)) V):ask c (.op .Add a b) V K:=wo (bS ha hb hz λp np=>.E6 np q)
end
theorem Be{n:Nat}{K:Ks}(h:let mz:=m;let Kz:=K;run c n f x s V mz Kz):run c n f x s V m K:=h
noncomputable def YD(o:Option GG):Bool:=match o with|some ⟨_,_,.func _,_⟩=>true|_=>false
noncomputable def ay(b:FuncBody):Bool:=match b with| .stmts _=>true|_=>false
noncomputable def xq(P:Fu)(f:AU)(ps ls G C:List AV):Bool:=
 YD ((KK P).lookup f)&&(hZ (KK P) (Dc P f).code (Dc P f).qualname&&(ay (Dc P f).body&&((Dc P f).closure.isEmpty&&(decide ((Dc P f).globals=Ea)&&(decide ((Dc P f).builtins=UJ)&&
 (!(Dc P f).scope.isCoroutine&&(!(Dc P f).scope.isGenerator&&((Dc P f).scope.kind==.function&&(decide ps.Nodup&&(ZS (Dc P f).scope.names C (ps++ls)&&G.all λx=>(Dc P f).scope.names.lookup x==some .globalImplicit))))))))))
theorem yF(h:YD ((KK P).lookup f)=true):∃oc od sl,(KK P).lookup f=some ⟨oc,od,.func (Dc P f),sl⟩:=by
 unfold Dc;unfold YD at h;split at h
 ·rename_i e;rw[e];exact⟨_,_,_,rfl⟩
 ·exact fT h
theorem az(h:ay (Dc P f).body=true):(Dc P f).body=.stmts (M0 P f):=by
 unfold M0;unfold ay at h;split at h
 ·rename_i e;rw[e]
 ·exact fT h
theorem Io{a b:Bool}{G:Prop}(h:(a&&b)=true)(k:a=true->b=true->G):G:=by cases a;exact fT h;exact k rfl h
noncomputable def eX(β:Type):Nat->Type
 |0=>β
 |k+1=>Ap->eX β k
noncomputable def Qh{β:Type}:∀k,(List Ap->β)->eX β k
 |0,f=>f []
 |k+1,f=>λv=>Qh k λl=>f (v::l)
theorem wm{β:Type}(k):∀{f g:List Ap->β},Qh k f=Qh k g->∀vs:List Ap,vs.length=k->f vs=g vs:=by
 induction k with
 |zero=>exact λh vs e=>List.eq_nil_of_length_eq_zero e▸h
 |succ k ih=>
  intro f g h vs e;cases vs with
  |nil=>exact nomatch e
  |cons v vs=>exact ih (congrFun h v) vs (uP e)
theorem Bg(ps ls G C:List AV)(B:List Nat)(hb:Qh HD.length (λvs S=>peek (KK w.params) S (gV (Dc w.params f) ⟨vs,[]⟩))=Qh HD.length λvs Z=>some (ps.zip (vs++[])))(hk:xq w.params f ps ls G C=true)
 (h:run ⟨w,h₀⟩ 5000 ⟨n,G,C,B⟩ (.ss (M0 w.params f)) [] V (L0 ps (HD++[]) ls) (oK Q)):Ag w h₀ (n+1) f HD V Q:=
 Io hk λh1 y=>Io y λh2 y=>Io y λh3 y=>Io y λh4 y=>Io y λh5 y=>Io y λh6 y=>Io y λh7 y=>Io y λh8 y=>Io y λh9 y=>Io y λHB y=>Io y λh11 Lg=>
  YH B ⟨yF h1,h2,az h3,List.isEmpty_iff.mp h4,of_decide_eq_true h5,of_decide_eq_true h6,(N1 _).mp h7,(N1 _).mp h8,eq_of_beq h9⟩ (λvs e S=>congrFun (wm _ hb vs e) S) (λZ Z=>by simp[BD]) (of_decide_eq_true HB) h11 Lg h
def Gl(V:Hp)(b:AU):Prop:=∃x y:Int,V b=some (.list [.int x,.int y])/\0<=x/\0<=y/\y<2147483647
def Fp(b:AU)(V AE:Hp):Prop:=∃x y:Int,AE=V.set b (.list [.int x,.int y])/\0<=x/\0<=y/\y<2147483647
theorem Fp.box(h:Fp b V AE):Gl AE b:=by(refine Ao h λx y AR=>?_;obtain C4:=AR.1;obtain r:=AR.2;subst C4);exact(Aj x y ⟨AS,r⟩)
theorem Fp.trans(h:Fp b V AE)(k:Fp b AE DV):Fp b V DV:=by
 (refine Ao h λx y AX=>?_;obtain Cs:=AX.1;obtain r:=AX.2;subst Cs);(refine Ao k λx' y' Ai=>?_;obtain Eb:=Ai.1;obtain r':=Ai.2;subst Eb);exact(Aj x' y' ⟨set_set,r'⟩)
theorem Fp.refl(h:Gl V b):Fp b V V:=by
 (refine Ao h λx y A6=>?_;obtain e:=A6.1;obtain r:=A6.2);refine(Aj x y ⟨?_,r⟩);funext a;unfold Hp.set;split
 ·rename_i z;subst z;exact e
 ·rfl
theorem DM(hb:Gl V b)(h1:0<n)(h2:n<2^60)
 (q:∀d AE,0<=d->d<n->Fp b V AE->Q (.int d) AE):Ag w h₀ 1 606 [.ref b,.int n] V Q:=by
 (refine Ao hb λx y A2=>?_;obtain hb:=A2.1;obtain NL:=A2.2.1;obtain Uy:=A2.2.2.1;obtain Uz:=A2.2.2.2);refine Bg ["box","many"] ["digit"] [] [] [] (by kernel_rfl) (by kernel_rfl)<|AA<|CR (Bi hb) (by decide) (by decide) rfl<|AA<|BW (λhx=>?_) (λhx=>?_)
 ·refine AA<|CR (Bi hb) (by decide) (by decide) rfl<|AA<|w_mod (Aw 77126348379849273 rfl h1)<|AA<|CR (Bi hb) (by decide) (by decide) rfl<|AA<|w_div (Aw 77126348379849273 rfl h1) (by omega)<|AA<|J' hb (by decide) (by decide) (by simp)<|q _ _ (XC NL (Aw 4820328249360953 rfl h1)) (XB _ h1) (Aj _ _ (BR rfl (sY NL (Aw 4820328249360953 rfl h1)) Uy Uz))
 ·refine AA<|CR (Bi hb) (by decide) (by decide) rfl<|AA<|w_mul (dH Uy) (qu Uz)<|AA<|w_mod (EJ 0x11027ffffffffffffff256 rfl)<|AA<|J' hb (by decide) (by decide) (by simp)<|AA<|CR (Bi AS) (by decide) (by decide) rfl<|AA<|w_div (EJ 18701377139286 rfl) (by decide)<|AA<|w_mod (Aw 77126348379849273 rfl h1)<|q _ _ (XC (sY (XC (Aw 0x1bcf8fff201bcf8fff7021010219 rfl Uy) (EJ 0x117ffffffffffffff2021 rfl)) (EJ 1185663623201 rfl)) (Aw 4820328249360953 rfl h1)) (XB _ h1) (Aj _ _ (BR rfl NL (XC (Aw 0x1bcf8fff201bcf8fff7021010219 rfl Uy) (EJ 0x117ffffffffffffff2021 rfl)) (XB _ (EJ 0x117ffffffffffffff2023 rfl))))
noncomputable def BH(a:Int):Int:=if a=0 then 1 else a
theorem pC(q:Q (.int (BH x)) V):Ag w h₀ 1 87 [.tup [.int x,.int y]] V Q:=by
 refine Bg ["step"] [] [] [] [] (by kernel_rfl) (by kernel_rfl)<|AA<|J4 (j:=0) rfl (by decide) (by decide) rfl<|AA<|F6 (λh=>?_) (λh=>?_)
 ·skip;unfold BH at q;rw[if_pos h]at q;exact q
 ·refine AA<|J4 (j:=0) rfl (by decide) (by decide) rfl ?_
  unfold BH at q;rw[if_neg h]at q;exact q
noncomputable def JD(v:Int):Int:=if v<4 then v else 2*((Ih v:Int)-1)+eT (v.fdiv (2^((Ih v:Int)-1-1).toNat)) 1
noncomputable def HI(v:Int):Int:=if v<4 then 0 else(Ih v:Int)-1-1
theorem lT(h0:0<=v)(h:v<=u):Ih v<=Ih u:=by
 have h2:u.natAbs<2^Ih u:=by
  unfold Ih;split
  ·rename_i z;obtain this:u=0:=by simpa using z
   subst this;decide
  ·exact Nat.lt_log2_self
 exact PySem.intBits_le_iff.mpr (by omega)
theorem lS(h:4<=v):3<=Ih v:=by
 obtain this:=lT (v:=4) (u:=v) (EJ 18096161 rfl) h;obtain e:Ih 4=3:=by decide+kernel
 exact AM 0x1101400320321049001009 rfl this e
theorem AT6(h:v<=u):HI v<=HI u:=by
 unfold HI;split<;>split
 ·exact EJ 17834017 rfl
 ·have:=lS (v:=u) (Aw 77125526935835497 rfl (by assumption));exact Ah 0x112121200844021003209 rfl this
 ·exact Dv 0x11130212120084414201394211369011119 rfl h (by assumption) (by assumption)
 ·have:=lT (v:=v) (u:=u) (Aw 77125252057928553 rfl (by assumption)) h;exact AM 0x1121212108441212008441100009 rfl this
theorem PQ(q:Q (.tup [.int (JD v),.int (HI v)]) V):Ag w h₀ 1 184 [.int v] V Q:=by
 refine Bg ["value"] ["high"] [] [] [] (by kernel_rfl) (by kernel_rfl)<|AA<|BW (λh=>?_) (λh=>?_)
 ·skip;unfold JD HI at q;rw[if_pos h,if_pos h]at q;exact q
 ·apply AA;obtain this:=lS (v:=v) (Aw 77125526935835497 rfl h);refine Ah6<|AA<|Ag8<|AA<|w_mul (EJ 0x112210f0f0f0f0f0f0f0f0f0f0f0f0f0f0f0f253 rfl) (EJ 0x1110f0f0f0f0f0f0f0f0f0f0f0f0f0f0f0f2223 rfl)<|AA<|w_shr (Ah 0x112121200844021003209 rfl this)<|AA<|w_and ?_
  unfold JD HI at q;rw[if_neg h,if_neg h]at q;exact q
theorem zg:Gs 216 "of_literal":=gs rfl
theorem zh:Gs 216 "of_match":=gs rfl
theorem zf:Gs 216 "of_bit":=gs rfl
theorem yV:Ga 216 "of_literal":=ga rfl
theorem jP:Ga 216 "of_match":=ga rfl
theorem jO:Ga 216 "of_bit":=ga rfl
theorem y9:Gm 216 "literal" 206:=gm rfl
theorem y_:Gm 216 "match" 213:=gm rfl
theorem yl:Gc 216 199:=gc rfl
noncomputable abbrev Qp:List AV:=["of_literal","of_match","of_bit"]
theorem x9(hx:V x=some (.inst 216 d [] []))(h1:0<=a)(h2:0<=b)(h3:0<=c)
 (q:Q .none (V.set x (.inst 216 d Qp [.int a,.int b,.int c]))):Ag w h₀ 1 199 [.ref x,.int a,.int b,.int c] V Q:=by
 refine Bg ["self","literal","match","bit"] [] [] [] [] (by kernel_rfl) (by kernel_rfl)<|AA<|BW (λh=>absurd h (Pr h1)) (λZ=>?_)
 refine AA<|BW (λh=>absurd h (Pr h2)) (λZ=>?_)
 refine AA<|BW (λh=>absurd h (Pr h3)) (λZ=>?_)
 refine AA<|Df hx zg (by decide)<|AA<|Df AS zh (by decide)<|AA<|Df AS zf (by decide) ?_
 refine AD set_set<|AD set_set ?_
 exact q
theorem x8(h1:0<=a)(h2:0<=b)(h3:0<=c)
 (q:Q (.ins 216 Qp [.int a,.int b,.int c]) V):Ag w h₀ 2 216 [.int a,.int b,.int c] V Q:=by
 refine Ag.cv (Jg (yl _) λx d nx nd ne=>?_);refine x9 AS h1 h2 h3 ⟨rfl,?_⟩;refine AD set_set<|.inst AS (.done ?_)
 refine AD (Gh nx) ?_;exact q
theorem x_(q:Q (.int a) V):Ag w h₀ 1 206 [.ins 216 Qp [.int a,.int b,.int c],.int o] V Q:=by
 refine Bg ["self","octet"] [] [] [] [] (by kernel_rfl) (by kernel_rfl)<|AA<|Ax (.inl rfl) yV rfl<|q
noncomputable def Ld(b c l d:Int):Int:=if c=0 then b else b+c*(HI (l-2)+HI (d-1))
theorem Ro(P):∃t,Jt (KK P) Ea "LEAST_MATCH"=some (some (.int 2 t)):=⟨_,rfl⟩
theorem yA(h0:0<=c)(h1:c<=1)(q:Q (.int (Ld b c l d)) V):Ag w h₀ 2 213 [.ins 216 Qp [.int a,.int b,.int c],.int l,.int d] V Q:=by
 apply Bg ["self","length","distance"] [] ["slot_of","LEAST_MATCH"] [] [] (by kernel_rfl) (by kernel_rfl);obtain⟨t,hL⟩:=Ro w.params;refine AA<|Ax (.inl rfl) jO rfl<|AA<|F6 (λh=>?_) (λh=>?_)
 ·refine AA<|Ax (.inl rfl) jP rfl ?_
  unfold Ld at q;rw[if_pos h]at q;exact q
 ·refine AA<|Ax (.inl rfl) jP rfl<|AA<|Ax (.inl rfl) jO rfl<|AA<|PQ<|AA<|J4 (j:=1) rfl (by decide) (by decide) rfl<|AA<|PQ<|AA<|J4 (j:=1) rfl (by decide) (by decide) rfl<|AA<|w_mul (dH h0) (Aw 0x11210f0f0f0f0f0f0f0f0f0f0f0f0f0f0f0f2013120119 rfl h1) ?_
  unfold Ld at q;rw[if_neg h]at q;exact q
theorem x7(h0:0<=c)(h:d<=d'):Ld b c l d<=Ld b c l d':=by
 unfold Ld;split
 ·exact Sq
 ·obtain this:=AT6 (v:=d-1) (u:=d'-1) (Bd 0x11212114120141110119 rfl h);obtain this:=Int.mul_le_mul_of_nonneg_left (a:=HI (l-2)+HI (d-1)) (b:=HI (l-2)+HI (d'-1)) (c:=c) (DR 0x11221013110131211119 rfl this) h0;exact DR 0x11221013110131211119 rfl this
theorem zx:Gs 367 "octets":=gs rfl
theorem zy:Gs 367 "size":=gs rfl
theorem zw:Gs 367 "last":=gs rfl
theorem zv:Gs 367 "before":=gs rfl
theorem YM:Ga 367 "octets":=ga rfl
theorem jT:Ga 367 "size":=ga rfl
theorem YL:Ga 367 "last":=ga rfl
theorem jS:Ga 367 "before":=ga rfl
theorem Ug:Gm 367 "key" 350:=gm rfl
theorem YX:Gm 367 "put" 357:=gm rfl
theorem YY:Gm 367 "newest" 364:=gm rfl
theorem yp:Gc 367 343:=gc rfl
theorem L7(P):∃t,Jt (KK P) Ea "NOWHERE"=some (some (.int (-1) t)):=⟨_,rfl⟩
noncomputable abbrev Vj:List AV:=["octets","size","last","before"]
noncomputable def GP:Option Int->MV
 |none=>.none
 |some i=>.int i
noncomputable def Gn(l:List Int):Int:=l.foldl (λn o=>n*256+o) 0
theorem lu(l)(o):Gn (l++[o])=Gn l*256+o:=by unfold Gn;apply AG TZ;rfl
theorem AF7{α:Type}{motive:List α->Prop}(l:List α)(nil:motive [])(append_singleton:∀l a,motive l->motive (l++[a])):motive l:=by
 obtain this:∀r:List α,motive r.reverse:=λr=>by
  induction r with
  |nil=>exact nil
  |cons a r ih=>refine AD QG ?_;exact append_singleton _ _ ih
 obtain h:=this l.reverse;rwa[tr]at h
noncomputable abbrev lc(l:List (String×Option MV)):Lc:=l.map λp=>(CL p.1,p.2)
theorem AE1:∀(l:List Int),(∀o∈l,0<=o/\o<256)->0<=Gn l/\Gn l<256^l.length:=by
 intro l;induction l using AF7 with
 |nil=>intro _;simp[Gn]
 |append_singleton l o ih=>
  intro h;obtain h1:=ih λx hx=>h x (by simp[hx]);obtain h2:=h o (by simp);refine AD (lu ..)<|AD Tc<|AD List.length_singleton<|AD (Int.pow_succ ..) ?_
  exact DR 0x11010f0f05101010f0f52110f0f7110110f0f733110110f0f73021710f0f21131102179210130102179 rfl h1 h2
noncomputable def BL(o:List Int)(sz p:Int):Option Int:=if(o.length:Int)<p+sz then none else some (Gn (A3 o (some p) (some (p+sz))))
structure Txt(o:List Int):Prop where
 oct:∀x∈o,0<=x/\x<256
 len:o.length<=1000
theorem aS{α:Type}{l:List α}{x:α}(h:x∈A3 l a b):x∈l:=Tg (XQ h)
theorem oD{α:Type}{l:List α}(h0:0<=p)(h1:0<=s):(A3 l (some p) (some (p+s))).length<=s.toNat:=by
 unfold A3;simp;exact Dv 0x100105110105101105111105100005110005101005111005111105101105110105100105111005101005110005100005019119300110139a0 rfl
theorem Vl{o:List Int}{sz p:Int}(ha:EI V a 367 Vj [.bytes o,.int sz,la,be])(T:Txt o)(h0:0<=p)(h1:p<=o.length)(s0:1<=sz)(s1:sz<=4)
 (q:Q (GP (BL o sz p)) V):Ag w h₀ 1 350 [a,.int p] V Q:=by
 obtain this:=T.len
 refine Bg ["self","place"] ["number","octet"] ["len"] [] [] (by kernel_rfl) (by kernel_rfl)<|AA<|BW (λZ=>?_) (λh=>absurd h (Aw 0x1120102166010219 rfl h0))
 refine AA<|Ax ha YM rfl<|AA<|FL (EP this)<|AA<|GU (λh=>absurd h1 h) (λZ=>?_)
 refine AA<|Ax ha jT rfl<|AA<|Ax ha YM rfl<|AA<|FL (EP this)<|AA<|BW (λh=>?_) (λh=>?_)
 ·skip;unfold BL at q;rw[if_pos h]at q;exact q
 ·apply AA;obtain tl:=oD (l:=o) h0 (show 0<=sz by exact LA s0);refine Ax ha YM rfl<|AA<|Ax ha jT rfl<|AA<|IW (Ic this) (λi e=>by(obtain zI:=Au e;subst zI);omega) (λi e=>by(obtain zI:=Au e;subst zI);exact Bd 0x111311013021111219010219 rfl h0 s0)<|AA ?_
  let Dy:List MV->Hp->Lc->Prop:=λAN AE m=>AE=V/\∃d r oc,AN=r.map MV.int/\A3 o (some p) (some (p+sz))=d++r/\m=[(CL "self",some a),(CL "place",some (.int p)),(CL "number",some (.int (Gn d))),(CL "octet",oc)];refine EO Dy (.bytes _ _) (λZ Z Z Z Z=>trivial) (λZ Z Z=>trivial) ((HW rfl (BK ([]) _ none (AO rfl rfl rfl)))) ?_ ?_
  ·intro mv AN AE m Am;obtain Hb:=Am.1;obtain As:=Am.2;refine A1 As λd r oc Ck=>?_;obtain hr:=Ck.1;obtain hd:=Ck.2.1;obtain Hc:=Ck.2.2;clear Ck As Am;subst Hb;subst Hc;cases r with
   |nil=>exact cN hr
   |cons x r=>
    simp only[By,Dj]at hr;obtain⟨rfl,rfl⟩:=hr;obtain IC:∀y∈d,0<=y/\y<256:=λy hy=>T.oct y (aS (a:=some p) (b:=some (p+sz)) (by refine AD hd ?_;simp[hy]));obtain kb:=AE1 d IC
    obtain dl:d.length<=4:=by rw[hd]at tl;simp at tl;exact Bm 0x10110061011016420000191210300309420119 rfl s1 tl
    obtain this:(256:Int)^d.length<=256^4:=by exact_mod_cast Nat.pow_le_pow_right (by decide) dl
    refine AA<|w_mul (Bd 0x10130110f0f0f0f0f0f0f0f0f0f0f0f0f0f0f0f253110130102179 rfl kb) (Bd 0x1110410f0f0f0f0f0f0f0f0f0f0f0f0f0f0f0f201310f0f0f0f0f0f0f0f21119110130102179 rfl kb this)<|(HW rfl (BK (d++[x]) r (some (.int x)) (AO rfl (by refine AG hd ?_;simp) (by refine AD (lu ..) ?_;rfl))))
  ·intro AE m Am;obtain Hb:=Am.1;obtain As:=Am.2;refine A1 As λd r oc Ck=>?_;obtain hr:=Ck.1;obtain hd:=Ck.2.1;obtain Hc:=Ck.2.2;clear Ck As Am;subst Hb;subst Hc;cases r with
   |cons x r=>exact nC hr
   |nil=>
    rw[HS]at hd;unfold BL at q;rw[if_neg h,hd]at q;exact q
structure DL(V:Hp)(r dr la be:AU)(o:List Int)(sz:Int)(L:List (Int×Int))(B:List Int):Prop where
 inst:V r=some (.inst 367 dr Vj [.bytes o,.int sz,.ref la,.ref be])
 last:V la=some (.di L)
 before:V be=some (.list (B.map .int))
 len:B.length=o.length
 small:L.length<=1000
noncomputable def C_(L:List (Int×Int))(k:Option Int):Int:=match k with
 |none=>-1
 |some k=>(Ak L k).getD (-1)
noncomputable def Kt(B:List Int)(L:List (Int×Int))(k:Option Int)(p:Int):List Int:=match k with
 |none=>B
 |some k=>B.set p.toNat ((Ak L k).getD (-1))
noncomputable def Jy(L:List (Int×Int))(k:Option Int)(p:Int):List (Int×Int):=match k with
 |none=>L
 |some k=>dput L k p
theorem set_same{V:Hp}{a:AU}{o:MO}(h:V a=some o):V.set a o=V:=by
 funext b;unfold Hp.set;split
 ·rename_i z;subst z;exact h.symm
 ·rfl
theorem aV{o:List Int}{sz p:Int}{L:List (Int×Int)}{B:List Int}(S:DL V r dr la be o sz L B)(T:Txt o)(h0:0<=p)(h1:p<o.length)(s0:1<=sz)(s1:sz<=4)
 (q:Q .none ((V.set be (.list ((Kt B L (BL o sz p) p).map .int))).set la (.di (Jy L (BL o sz p) p)))):Ag w h₀ 2 357 [.ref r,.int p] V Q:=by
 have ha:EI V (.ref r) 367 Vj [.bytes o,.int sz,.ref la,.ref be]:=.inr (Aj r dr ⟨rfl,S.inst⟩)
 have:=T.len
 obtain⟨t,hN⟩:=L7 w.params
 have nlb:la≠be:=λz=>by have:=S.last;rw[z,S.before]at this;cases this
 have nrb:r≠be:=λz=>by have:=S.inst;rw[z,S.before]at this;cases this
 refine Bg ["self","place"] ["number"] ["NOWHERE"] [] [] (by kernel_rfl) (by kernel_rfl)<|AA<|Bw ha (by decide) Ug<|AA<|Vl ha T h0 (Bp 0x1120080110080139 rfl h1) s0 s1 ?_
 cases hk:BL o sz p with
 |none=>
  simp only[GP]
  refine AA (De ?_)
  rw[hk]at q
  simp only[Kt,Jy]at q
  rw[set_same S.before,set_same S.last]at q
  exact q
 |some k=>
  simp only[GP]
  refine AA<|IT<|AA<|Ax ha YL rfl<|AA<|Kw (.inr ⟨la,⟨rfl,S.last⟩⟩)<|AA<|w_get (.inr ⟨la,⟨rfl,S.last⟩⟩)<|AA<|Ax ha jS rfl<|AA<|J' S.before h0 (dJ h1 this) (by refine AD (Fc ..)<|AD S.len ?_;exact h1) ?_
  refine AA<|Ax (.inr (Aj r dr ⟨rfl,(by apply AG (AL nrb);exact S.inst)⟩)) YL rfl ?_
  refine AA<|Ni (by apply AG (AL nlb);exact S.last) (by have:=S.small;exact Ic this) ?_
  rw[hk]at q
  simp only[Kt,Jy,Te]at q;exact q
theorem aU{o:List Int}{sz p:Int}{B:List Int}(S:DL V r dr la be o sz L B)(T:Txt o)(h0:0<=p)(h1:p<=o.length)(s0:1<=sz)(s1:sz<=4)
 (Cq:C_ L (BL o sz p)<p) (q:Q (.int (C_ L (BL o sz p))) V):Ag w h₀ 2 364 [.ref r,.int p] V Q:=by
 have ha:EI V (.ref r) 367 Vj [.bytes o,.int sz,.ref la,.ref be]:=.inr (Aj r dr ⟨rfl,S.inst⟩);have:=T.len;obtain⟨t,hN⟩:=L7 w.params;refine Bg ["self","place"] ["number","other"] ["NOWHERE"] [] [] (by kernel_rfl) (by kernel_rfl)<|AA<|Bw ha (by decide) Ug<|AA<|Vl ha T h0 (h1) s0 s1 ?_
 cases hk:BL o sz p with
 |none=>
  simp only[GP];refine AA (IT ?_);rw[hk]at q;exact q
 |some k=>
  simp only[GP]
  refine AA<|De<|AA<|Ax ha YL rfl<|AA<|Kw (.inr ⟨la,⟨rfl,S.last⟩⟩)<|AA<|w_get (.inr ⟨la,⟨rfl,S.last⟩⟩)<|AA ?_
  rw[hk]at q Cq;simp only[C_]at q Cq;refine J8 (λn AE m=>AE=V/\m=([("self",some (.ref r)),("place",some (.int p)),("number",some (.int k)),("other",some (.int ((Ak L k).getD (-1))))]:Lc)) 0 ⟨rfl,rfl⟩<|λn AE m Dh=>?_
  obtain⟨rfl,rfl⟩:=Dh;refine AA<|BW (λh=>absurd h (Bd 77142839980527929 rfl Cq)) (λh=>?_)
  exact q
theorem CZ(h:¬foot V b):V b=none:=by
 cases e:V b with
 |none=>rfl
 |some o=>exact absurd (.inl ⟨o,e⟩) h
theorem Kp{V:Hp}{a b:AU}{o:MO}(h:¬foot (V.set a o) b):b≠a:=λz=>by
 obtain this:=CZ h;rw[z,AS]at this;exact sN this
theorem Kq{V:Hp}{a b:AU}{o:MO}(h:¬foot (V.set a o) b):V b=none:=by
 have:=CZ h;rwa[AL (Kp h)]at this
theorem pF(h:DE a b)(k:DE b c):DE a c:=λx o e=>k x o (h x o e)
theorem bC(s:DE V AE)(h:V a=none):DE V (AE.set a o):=λb o' e=>by
 unfold Hp.set;split
 ·rename_i z;subst z;rw[h]at e;exact nS e
 ·exact s b o' e
theorem NZ(s:DE V AE)(h:AE a=none):V a=none:=by
 cases e:V a with
 |none=>rfl
 |some o=>rw[s _ _ e]at h;exact sN h
theorem Z0:CD n (MV.int x)=(CD n x).map .int:=by simp
def newRow(V:Hp)(o:List Int)(sz:Int)(Q:MV->Hp->Prop):Prop:=
 ∀r dr la be AE,DE V AE->DL AE r dr la be o sz [] (CD o.length (-1))->V r=none->V la=none->V be=none->Q (.ref r) AE
theorem AS1{Q:MV->Hp->Prop}{r dr:AU}{o:List Int}{sz:Int}(hr:V r=some (.inst 367 dr [] []))(T:Txt o)(s0:1<=sz)
 (q:∀la be AE,DL AE r dr la be o sz [] (CD o.length (-1))->V la=none->V be=none->(∀b,b≠r->V b≠none->AE b=V b)->Q .none AE):Ag w h₀ 1 343 [.ref r,.bytes o,.int sz] V Q:=by
 obtain this:=T.len;obtain⟨t,hN⟩:=L7 w.params;apply Bg ["self","octets","size"] [] ["NOWHERE","len"] [] [] (by kernel_rfl) (by kernel_rfl);apply Be;intro mz Kz;refine AA<|BW (λh=>absurd h (WV s0)) (λh=>?_)
 refine AA<|Df hr zx (by decide)<|AA<|Df AS zy (by decide)<|AA ?_
 refine AD set_set<|Pc λla Rp=>AA ?_
 obtain e1:=Kp Rp;refine Df (by apply AG (AL (HU e1));exact AS) zw (by decide) ?_;refine AA<|CU<|AA<|FL (EP this)<|AA<|Pd BY (WW this) WX λbe mj=>AA ?_
 obtain e2:=Kp mj;obtain e3:=Kq mj;obtain e4:=(neN AS e3).symm;rw[AL e4,AL e2]at e3;refine Df (by apply AG (AL (HU e2));exact AS) zv (by decide) ?_;refine q la be _ ⟨?_,?_,?_,?_,?_⟩ (by obtain this:=Kq Rp;exact this) e3 ?_
 ·apply AG AS;rfl
 ·exact AG (AL e1)<|AG (AL (HU e4))<|AG (AL e1) AS
 ·rw[AL e2,AS,HR,Z0]
 ·simp
 ·simp
 ·intro b hb hn;obtain n1:b≠la:=λz=>by obtain this:=Kq Rp;rw[<-z]at this;exact hn this
  obtain n2:b≠be:=λz=>by rw[<-z]at e3;exact hn e3
  rw[AL hb,AL n2,AL hb,AL n1,AL hb]
theorem Vk(T:Txt o)(s0:1<=sz)(q:newRow V o sz Q):Ag w h₀ 2 367 [.bytes o,.int sz] V Q:=by
 refine Jg (yp _) λx d nx nd ne=>AS1 AS T s0 λla be AE S n1 n2 k=>⟨rfl,q x d la be AE ?_ S (CZ nx) ?_ ?_⟩
 ·intro b o' e;have:b≠x:=neN e (CZ nx);exact AG (k b this (by rw[AL this,e];simp))<|AG (AL this) e
 ·have:la≠x:=(neN AS n1).symm;rwa[AL this]at n1
 ·have:be≠x:=(neN AS n2).symm;rwa[AL this]at n2
theorem yf(P):∃t u n a,W9 P 582 "LAYERS" (.ref a)/\(KK P).lookup a=some (Nd #[.int 2 t,.int 3 u] n):=(Ar _ _ _ _ ⟨⟨rfl,rfl,rfl,rfl,rfl,rfl⟩,rfl⟩)
theorem yg(P):∃t,W9 P 582 "TREE" (.int 4 t):=⟨_,rfl,rfl,rfl,rfl,rfl,rfl⟩
theorem AY9{X:Cx}{V:Hp}{a:AU}{t u:Tok}{n:Nat}(hl:(KK X.w.params).lookup a=some (Nd #[.int 2 t,.int 3 u] n)):∀D h,RS X.w X.h₀ D h V->BS X.w X.h₀->VR X.w D h (.tup [.int 2,.int 3]) (.ref a):=λD h r b=>by
 obtain e:=r.base _ _ (b.K _ _ hl);simp only[AZ,BD];exact⟨a,_,n,rfl,e.2,e.1,⟨t,rfl⟩,⟨u,rfl⟩,trivial⟩
section
variable{c:CW}{V:Hp}{K:MV->Hp->Prop}
theorem qC{a:MV}{ks:List AV}{vs:List MV}(i:EI V a 582 ks vs)(nk:CL "LAYERS"∉ks)(q:K (.tup [.int 2,.int 3]) V):ask c (.attr "LAYERS" a) V K:=λX m=>by
 (refine Bc (yf X.w.params) λt u n b AR=>?_;obtain g:=AR.1;obtain h:=AR.2);exact nQ i g nk (AY9 h) ⟨rfl,q⟩
theorem Ai0(i:EI V a 582 ks vs)(nk:CL "TREE"∉ks)(q:K (.int 4) V):ask c (.attr "TREE" a) V K:=λX m=>by
 obtain⟨t,g⟩:=yg X.w.params;exact nQ i g nk (λZ Z Z Z=>DB) ⟨rfl,q⟩
end
theorem vN:V4 (.type "bytes") "__bytes__"=pure (some (.builtin "bytes.__bytes__")):=by refine AG (bO ..)<|AD Xn ?_;kernel_rfl
theorem vO:V4 (.type "bytes") "__len__"=pure (some (.builtin "bytes.__len__")):=by refine AG (bO ..)<|AD Xn ?_;kernel_rfl
section
variable{prog:H5}{w:CE}{A:Hx}{E:Ap->Bq->Prop}{s:Bq}
theorem vE(hQ:Q (.bytes b t) s):
 GI (A7 prog w) A (.call (.builtin "bytes.__new__") ⟨[.type "bytes",.bytes b t],[]⟩) (wants Q E) s:=by
 apply wZ;show Aq _ A.in1 (do checkBuiltinCall "bytes.__new__" ⟨[.type "bytes",.bytes b t],[]⟩;again (.builtin "bytes.__new__" ⟨[.type "bytes",.bytes b t],[]⟩)) _ _ s;refine Ae (IX (F.bm_newCall _) (BN ⟨aP sI _,hY F.bm_entry ?_⟩));refine AD (d_ sI _) ?_;obtain hT:=uc _ _ _;unfold Builtin.«bytes.__new__»;refine Ae (IX (a:=true) rfl ?_);refine Xi rfl<|Ae (IX sJ ?_)
 refine Xi rfl<|Ae (IX (F.bm_bind _) ?_)
 refine Ae (IX (a:=()) rfl ?_);refine Ae (IX (a:=()) rfl ?_);refine Xi rfl<|Ae (bj hT vN ?_)
 refine Ae (bh ?_);refine Ae (SP hT ?_);apply gW (by decide);first
  |exact BN hQ
  |(show Aq _ _ (if(Mx "bytes"==Mx "bytes")=true then _ else _) _ _ _
    apply gW (by decide);first
     |exact BN hQ
     |exact Ae (BN (BN hQ)))
theorem vk(hQ:Q (.bytes b t) s):Aq (A7 prog w) A (call (.type "bytes") [.bytes b t]) Q E s:=by
 refine gk (Q₁:=λobj AJ=>AJ.TypeIs obj "bytes"/\Q obj AJ) ee (F.bm_typeCall _) F.entry_object_init
  (vE ⟨uc _ _ _,hQ⟩) λobj AJ C8=>?_
 exact(AO C8.1 (F.args_object_init_2 obj _) (object_init_meets ee.init.lookup ee.made (by decide) prog w A.in1 _ AJ (AO C8.1 rfl C8.2)))
theorem vF:splitId "bytes.__len__"=some ("bytes","__len__"):=by decide+kernel
def Tw(b:Array UInt8)(i:Nat)(v:Ap):Prop:=∃c u,b[i]? =some c/\v=.int (c.toNat:Int) u
theorem xo(hh:A.handled=none)(b)(t)(S)(res)(c₀)(hS:s.heap.get? S=some {cls:=.type "list",data:=.seq #[] c₀})
 (hR:∀h' tk El c',(∀b o,b≠S->s.heap.get? b=some o->h'.get? b=some o)->h'.get? S=some {cls:=.type "list",dict:=none,data:=.seq El c',slots:=#[]}->
  XG (Tw b) El b.size->R (.ok (.ret res)) {s with heap:=h',toks:=tk}) (hn:b.size<=Vp):
 Aq (A7 prog w) A.in1 (W3 (.ref S) (.bytes b t) res)
  (λfin s'=>match fin with| .done f=>R (.ok f) s'| .again c'=>c'.quiet=true/\GI (A7 prog w) A c' R s') (λe s'=>R (.error e) s') s:=by
 obtain hSI:=G3 (EF hS);obtain hSf:=λhm=>hSI (D7.mp hm);unfold W3;refine Ae (SP (T:="bytes") (v:=.bytes b t) rfl ?_);have h1:An6 (.ref S) (.bytes b t)=false:=rfl;obtain h2:(Mx "bytes"==Mx "list")=false:=by decide
 obtain h3:(Mx "bytes"==Mx "tuple")=false:=by decide
 simp only[h1,h2,h3,eS,Mc,if_false];refine Ae (tE ?_);obtain W:=KBw.walks (prog:=prog) (w:=w) (A:=A.in1) hh s.heap.objs.size b t;refine Ae (F9 ?_);unfold An5;refine Ae (bj (T:="bytes") (v:=.bytes b t) rfl vO ?_);dsimp only;refine AD vF ?_;dsimp only;refine Ae (qO (T:="bytes") (v:=.bytes b t) (b:=true) rfl sJ ?_);refine Xi rfl<|gW (by decide+kernel)<|Ae (SP (T:="bytes") (v:=.bytes b t) rfl ?_)
 refine BN<|AD (if_neg (by decide))<|BN ⟨aP F.plain_extend_loop _,codeAny_extend_loopS W.toS hn _ hSf _ b.size 0 _ _ _ rfl (JX _) ⟨_,(AO (Dx _ rfl) rfl rfl)⟩ (DD _ hS) (ItemsOf.nil _) λs' El c' hm Q0 Kc=>?_⟩
 refine AD (Moved.eq_with hm)<|hR s'.heap s'.toks El c' (λb ob hb e=>hm.heap b ob (λYz=>?_) (DD _ e)) Q0 Kc
 rcases CH.mp Yz with e'|Yz
 ·exact hb e'
 ·exact absurd (EF e) (by refine AD (D7.mp Yz) ?_;exact G0 _)
theorem AF9(hh:A.handled=none)(b)(t)(S)(hS:s.heap.get? S=some {cls:=.type "list",data:=.seq #[]})
 (hR:∀h' tk El c',(∀b o,b≠S->s.heap.get? b=some o->h'.get? b=some o)->h'.get? S=some {cls:=.type "list",dict:=none,data:=.seq El c',slots:=#[]}->
  XG (Tw b) El b.size->R (.ok (.ret .none)) {s with heap:=h',toks:=tk}) (hn:b.size<=Vp):
 Aq (A7 prog w) A.in1 (Builtin.«list.__init__» ⟨[.ref S,.bytes b t],[]⟩)
  (λfin s'=>match fin with| .done f=>R (.ok f) s'| .again c'=>c'.quiet=true/\GI (A7 prog w) A c' R s') (λe s'=>R (.error e) s') s:=by
 show Aq _ _ (do let old<-rx (.ref S);An8 (.ref S) (λZ=>#[]);letGo old.toList.reverse;W3 (.ref S) (.bytes b t) .none) _ _ s;apply Ae;unfold rx;refine Ae (Ak5 hS rfl (BN ?_));show Aq _ _ (updateSeq S (λZ=>#[])>>=λZ=>letGo (#[]:Array Ap).toList.reverse>>=λZ=>W3 (.ref S) (.bytes b t) .none) _ _ s;refine Ae (wpAny_updateSeq hS rfl ?_);obtain AA7:=W' (OE (λZ=>(#[]:Array Ap))) hS rfl;obtain oth:=
  λb o hb e=>(Heap.get?_update_other _ _ (HU hb)).trans e
 refine Ae (wpAny_letGo ?_);refine xo (hn:=hn) hh b t S .none _ AA7 λh' tk El c' hk Q0 Kc=>hR h' tk El c' (λb o hb e=>hk b o hb (oth b o hb e)) Q0 Kc
theorem vl(hh:A.handled=none)(b)(t)
 (hQ:∀h' tk El c',(∀b o,s.heap.get? b=some o->h'.get? b=some o)->
  h'.get? s.heap.objs.size=some {cls:=.type "list",dict:=none,data:=.seq El c',slots:=#[]}->XG (Tw b) El b.size->Q (.ref s.heap.objs.size) {s with heap:=h',toks:=tk}) (hn:b.size<=Vp):
 Aq (A7 prog w) A (call (.type "list") [.bytes b t]) Q E s:=by
 refine gk (Q₁:=λobj AJ=>obj=.ref s.heap.objs.size/\AJ={s with heap:=s.heap.push {cls:=.type "list",data:=.seq #[]}}) F.called_list (F.typeCall_list_1 _) F.entry_list_init
  (code_list_new _ ⟨rfl,rfl⟩) λobj AJ C8=>?_
 obtain⟨rfl,rfl⟩:=C8;have hS:(s.heap.push {cls:=.type "list",data:=.seq #[]}).get? s.heap.objs.size=some {cls:=.type "list",data:=.seq #[]}:=Dx _ rfl;refine(AO ⟨_,⟨hS,rfl⟩⟩ (F.args_list_init_2 _ _) (AF9 (A:=A.in1) (hn:=hn) hh b t _ hS λh' tk El c' hk Q0 Kc=>?_));exact⟨rfl,hQ h' tk El c' (λb o e=>hk b o (G3 (EF e)) (DD _ e)) Q0 Kc⟩
end
section
variable{X:Cx}{V:Hp}{m:Lc}{Q:MV->Hp->Lc->Prop}
theorem AM6(q:Q (.bytes l) V m):Dk X (.type "bytes") [.bytes l] V m Q:=by
 intro s D vs hs hv;(refine AI (GZ hv) λu AR=>?_;obtain C4:=AR.1;obtain hu:=AR.2;clear AR;subst C4);simp only[AZ]at hu;(refine Ao hu λb t AX=>?_;obtain Cs:=AX.1;obtain Nk:=AX.2;clear AX;try clear hu;subst Cs;subst Nk);exact vk (AW.Cm hs (by simp only[AZ];exact(Aj b t ⟨rfl,rfl⟩)) q)
theorem AY.of_get:∀{ms:List MV}{vs:List Ap},ms.length=vs.length->(∀(i:Nat)m v,ms[i]? =some m->vs[i]? =some v->VR w D h m v)->AY w D h ms vs
 |[],[],_,_=>by simp only[BD]
 |m::ms,v::vs,e,k=>by
  simp only[BD];exact⟨k 0 m v rfl rfl,AY.of_get (by simpa using e) λi m v h1 h2=>k (i+1) m v (by simpa using h1) (by simpa using h2)⟩
 |[],_::_,e,_=>by simp at e
 |_::_,[],e,_=>by simp at e
theorem AD2(x:XG (Tw b) acc b.size):AY w D h ((Fs b).map .int) acc.toList:=by
 refine AY.of_get (by obtain this:=x.1;simp[Fs];exact AM 0x1013110310004001049 rfl this) λi m v h1 h2=>?_;rw[Ge]at h2;(refine Ao (x.2 i v h2) λc u A5=>?_;obtain e1:=A5.1;obtain Ex:=A5.2;clear A5;subst Ex);simp only[Fs,Fd,EU,Ge,e1,fj,uV]at h1;subst h1;exact DB
theorem AN3(hz:l.length<=100000)(q:Q (.lst (l.map .int)) V m):Dk X (.type "list") [.bytes l] V m Q:=by
 intro s D vs hs hv;(refine AI (GZ hv) λu A2=>?_;obtain K6:=A2.1;obtain hu:=A2.2;clear A2;subst K6);simp only[AZ]at hu;(refine Ao hu λb t BM=>?_;obtain Ht:=BM.1;obtain JK:=BM.2;clear BM;try clear hu;subst Ht;subst JK);have IG:b.size<=100000:=by simpa[Fs]using hz
 refine vl hs.ok.1 b t (λh' tk El c' kp ha hi=>?_) (by refine AD JC ?_;exact WT IG);refine AW.grow hs kp ?_ q;simp only[AZ];exact(BK _ El c' (BR rfl (MA hs.rs) ha (AD2 hi)))
end
section
variable{c:CW}{V:Hp}{K:MV->Hp->Prop}
theorem Ah0(q:K (.bytes l) V):ask c (.bi (.type "bytes") [.bytes l]) V K:=λX m=>AM6 ⟨rfl,q⟩
theorem Ah5(hz:l.length<=100000)(q:K (.lst (l.map .int)) V):ask c (.bi (.type "list") [.bytes l]) V K:=λX m=>AN3 hz ⟨rfl,q⟩
end
noncomputable abbrev Jq:List AV:=["octets","least","window","chain","ahead"]
theorem Z1(g:∀n∈Jq,(∀P,GS P c n))(hx:V x=some (.inst c d [] []))(h1:1<=le)(h2:1<=wi)(h3:1<=ch)
 (q:Q .none (V.set x (.inst c d Jq [.bytes o,.int le,.int wi,.int ch,.int 0]))):Ag w h₀ 1 385 [.ref x,.bytes o,.int le,.int wi,.int ch] V Q:=by
 refine Bg ["self","octets","least","window","chain"] [] ["bytes"] [] [] (by kernel_rfl) (by kernel_rfl)<|AA<|BW (λh=>absurd h (WV h1)) (λZ=>?_)
 refine AA<|BW (λh=>absurd h (WV h2)) (λZ=>?_)
 refine AA<|BW (λh=>absurd h (WV h3)) (λZ=>?_)
 refine AA<|Ah0<|AA<|(D_ _ _ _ _ _ (An rfl hx (g _ (by simp)) (by decide) ?_))
 refine AA<|(D_ _ _ _ _ _ (An rfl AS (g _ (by simp)) (by decide) ?_))
 refine AA<|(D_ _ _ _ _ _ (An rfl AS (g _ (by simp)) (by decide) ?_))
 refine AA<|(D_ _ _ _ _ _ (An rfl AS (g _ (by simp)) (by decide) ?_))
 refine AA<|(D_ _ _ _ _ _ (An rfl AS (g _ (by simp)) (by decide) ?_))
 refine AD set_set<|AD set_set<|AD set_set<|AD set_set ?_
 exact q
structure Fin(P:Fu)(V:Hp)(a:MV)(c:AU)(ks:List AV)(vs:List MV)(o:List Int)(wi:Int):Prop where
 inst:EI V a c ks vs
 go:∀P,GA P c "octets"
 gw:∀P,GA P c "window"
 o:H7 ks vs "octets"=some (.bytes o)
 w:H7 ks vs "window"=some (.int wi)
theorem Z2(S:Fin w.params V a c ks vs o wi)(T:Txt o)(q:Q (.int (min mo (o.length-p))) V):
 Ag w h₀ 1 413 [a,.int p,.int mo] V Q:=by
 obtain this:=T.len
 refine Bg ["self","place","most"] [] ["min","len"] [] [] (by kernel_rfl) (by kernel_rfl)<|AA<|Ax S.inst S.go S.o<|AA<|FL (EP this)<|AA<|Ky<|q
theorem Ri(S:Fin w.params V a c ks vs o wi)(q:Q (.bool (decide (r≠-1/\p-r<=wi))) V):
 Ag w h₀ 1 434 [a,.int p,.int r] V Q:=by
 obtain⟨t,hN⟩:=L7 w.params
 refine Bg ["self","place","other"] [] ["NOWHERE"] [] [] (by kernel_rfl) (by kernel_rfl)<|AA<|NY (λh=>?_) (λh=>?_)
 ·refine AA<|Ax S.inst S.gw S.w ?_
  rw[show(decide (r≠-1/\p-r<=wi))=decide (p-r<=wi)by simp[h]]at q
  exact q
 ·rw[show(decide (r≠-1/\p-r<=wi))=(r !=-1)by simp[h]]at q
  obtain e:(r !=-1)=false:=by simp[h]
  rw[e]at q
  exact q
noncomputable def BF(o:List Int)(p q:Nat):Nat->Nat->Nat
 |0,k=>k
 |f+1,k=>if o.getD (p+k) 0=o.getD (q+k) 0 then BF o p q f (k+1)else k
theorem L2:(∀(o:List Int)(p q x:Nat),BF o p q 0 x=x)/\(∀(o:List Int)(p q x f:Nat),BF o p q (f+1) x=if o.getD (p+x) 0=o.getD (q+x) 0 then BF o p q f (x+1)else x):=⟨by intros;rfl,by intros;rfl⟩
theorem Rh{o:List Int}{wi pi qi ki li:Int}(S:Fin w.params V a c ks vs o wi)(T:Txt o)(p r k l:Nat)(ep:pi=p)(er:qi=r)(ek:ki=k)(el:li=l)
 (h1:p+l<=o.length) (h2:r+l<=o.length) (q:Q (.int (BF o p r (l-k) k:Nat)) V):Ag w h₀ 1 427 [a,.int pi,.int qi,.int ki,.int li] V Q:=by
 subst ep er ek el
 obtain this:=T.len
 apply Bg ["self","place","other","known","limit"] ["octets"] [] [] [] (by kernel_rfl) (by kernel_rfl)
 apply Be;intro mz Kz;refine AA<|Ax S.inst S.go S.o<|AA ?_
 let Dy:Nat->Hp->Lc->Prop:=λn AE m=>AE=V/\∃j:Nat,n=l-j/\BF o p r (l-j) j=BF o p r (l-k) k/\m=([("self",some a),("place",some (.int p)),("other",some (.int r)),("known",some (.int j)),("limit",some (.int l)),("octets",some (.bytes o))]:Lc)
 refine J8 Dy (l-k) (HW rfl ⟨k,(AO rfl rfl rfl)⟩)<|λn AE m Am=>?_
 obtain Hb:=Am.1;obtain As:=Am.2;refine AI As λj Ck=>?_;obtain hn:=Ck.1;obtain hj:=Ck.2.1;obtain Hc:=Ck.2.2;clear Ck As Am;subst Hb;subst Hc;apply Be;intro mz Kz;refine AA<|BW (λh=>?_) (λh=>?_)
 ·obtain Cq:j<l:=by exact Sl h
  obtain e1:((p:Int)+(j:Int)).toNat=p+j:=by exact Nq
  obtain e2:((r:Int)+(j:Int)).toNat=r+j:=by exact Nq
  refine AA<|Hr Nt (CM 0x11132081080083330810839203000309 rfl h1 h) (EP this)<|AA<|Hr Nt (CM 0x11132081080083330810839203000309 rfl h2 h) (EP this)<|AA ?_
  refine AD e1<|AD e2 ?_
  refine F6 (λh=>?_) (λh=>?_)
  ·skip;refine⟨(l-(j+1)),⟨(AQ 0x1001410014101100610010062012103004200810839100042049 rfl hn (by assumption)),(HW rfl ⟨j+1,(AO rfl ?_ rfl)⟩)⟩⟩;refine AD (A0 hj)<|AD (show l-j=(l-(j+1))+1 by exact qv (by assumption)) ?_
   simp only[L2];exact AD (if_pos h) rfl
  ·skip;rw[<-hj,show l-j=(l-(j+1))+1 by exact qv (by assumption)]at q;simp only[L2]at q;rw[if_neg h]at q;exact q
 ·refine AA (De ?_);rw[<-hj,show l-j=0 by exact AM 0x100310031103101302100044008108369 rfl h]at q;exact q
theorem Z3(hx:V x=some (.inst c d ks vs))(S:Fin w.params V (.ref x) c ks vs o wi)(T:Txt o)
 (ga:(∀P,GA P c "ahead")) (gs:(∀P,GS P c "ahead")) (gm:(∀P,GM P c "enter" f)) (hk:H7 ks vs "ahead"=some (.int ah)) (hz:ks.length<=100) (Ce:CL "enter"∉DY ks "ahead") (h1:ah<=p) (h2:p<o.length)
 (q:Ag w h₀ n f [.ref x,.int p] (V.set x (.inst c d (DY ks "ahead") (Ds ks vs "ahead" (.int (p+1))))) λZ V=>Q .none V):Ag w h₀ (n+1) 392 [.ref x,.int p] V Q:=by
 obtain this:=T.len
 refine Bg ["self","place"] [] ["len"] [] [] (by kernel_rfl) (by kernel_rfl)<|AA<|Ax S.inst ga hk<|AA<|BW (λh=>absurd h (Bd 77142840517398809 rfl h1)) (λZ=>?_)
 refine AA<|Ax S.inst S.go S.o<|AA<|FL (EP this)<|AA<|BW (λh=>absurd h (Bp 0x11201008160080139 rfl h2)) (λZ=>?_)
 refine AA<|Df hx gs (hz)<|AA<|Bw (.inr (Aj x d ⟨rfl,AS⟩)) Ce gm<|AA<|Ag.mono q λv AE z=>z
theorem zz:Gs 501 "ahead":=gs rfl
theorem z5:Gs 501 "row":=gs rfl
theorem Uc:Ga 501 "octets":=ga rfl
theorem jU:Ga 501 "least":=ga rfl
theorem yb:Ga 501 "window":=ga rfl
theorem ya:Ga 501 "chain":=ga rfl
theorem yZ:Ga 501 "ahead":=ga rfl
theorem YN:Ga 501 "row":=ga rfl
theorem zD:Gm 501 "put" 392:=gm rfl
theorem zL:Gm 501 "enter" 484:=gm rfl
theorem zF:Gm 501 "limit" 413:=gm rfl
theorem zG:Gm 501 "alike" 427:=gm rfl
theorem zH:Gm 501 "is_near" 434:=gm rfl
theorem zM:Gm 501 "candidates" 491:=gm rfl
theorem zN:Gm 501 "every" 498:=gm rfl
theorem yq:Gc 501 477:=gc rfl
noncomputable abbrev UU:List AV:=["octets","least","window","chain","ahead","row"]
noncomputable abbrev UW(o:List Int)(le wi ch ah:Int)(r:AU):List MV:=[.bytes o,.int le,.int wi,.int ch,.int ah,.ref r]
structure G8(V:Hp)(x d r dr la be:AU)(o:List Int)(le wi ch ah:Int)(L:List (Int×Int))(B:List Int):Prop where
 inst:V x=some (.inst 501 d UU (UW o le wi ch ah r))
 row:DL V r dr la be o le L B
 xr:x≠r
theorem G8.fin(S:G8 V x d r dr la be o le wi ch ah L B):Fin P V (.ref x) 501 UU (UW o le wi ch ah r) o wi:=
 ⟨.inr (Aj x d ⟨rfl,S.inst⟩),Uc,yb,rfl,rfl⟩
theorem wD(hx:V x=some (.inst 501 d [] []))(T:Txt o)(h1:1<=le)(h2:1<=wi)(h3:1<=ch)
 (q:∀r dr la be AE,G8 AE x d r dr la be o le wi ch 0 [] (CD o.length (-1))->V r=none->V la=none->V be=none->(∀b,b≠x->V b≠none->AE b=V b)->Q .none AE):
 Ag w h₀ 3 477 [.ref x,.bytes o,.int le,.int wi,.int ch] V Q:=by
 refine Bg ["self","octets","least","window","chain"] [] ["Matcher","PlaceRow"] [] [] (by kernel_rfl) (by kernel_rfl)<|AA<|Z1 (by intro n hn;simp only[CH,Fe,or_false]at hn;rcases hn with rfl|rfl|rfl|rfl|rfl<;>exact λZ=>⟨rfl,rfl,rfl,rfl⟩) hx h1 h2 h3<|AA<|Ax (.inr (Aj x d ⟨rfl,AS⟩)) Uc rfl<|AA<|Vk T h1 λr dr la be AE hs S n1 n2 n3=>AA ?_
 obtain e1:=(neN AS n1).symm
 obtain e2:=(neN AS n2).symm
 obtain e3:=(neN AS n3).symm
 refine Df (hs _ _ AS) z5 (by decide)<|q r dr la be _ ⟨AS,⟨?_,?_,?_,S.len,S.small⟩,e1.symm⟩ ?_ ?_ ?_ ?_
 ·apply AG (AL e1);exact S.inst
 ·apply AG (AL e2);exact S.last
 ·apply AG (AL e3);exact S.before
 ·rwa[AL e1]at n1
 ·rwa[AL e2]at n2
 ·rwa[AL e3]at n3
 ·intro b hb hn;apply AG (AL hb);cases e:V b with
  |none=>exact absurd e hn
  |some o'=>exact hs b o' (by apply AG (AL hb);exact e)
theorem v_(T:Txt o)(h1:1<=le)(h2:1<=wi)(h3:1<=ch)
 (q:∀x d r dr la be AE,DE V AE->G8 AE x d r dr la be o le wi ch 0 [] (CD o.length (-1))->V x=none->V r=none->V la=none->V be=none->Q (.ref x) AE):
 Ag w h₀ 4 501 [.bytes o,.int le,.int wi,.int ch] V Q:=by
 refine Jg (yq _) λx d nx nd ne=>wD AS T h1 h2 h3 λr dr la be AE S n1 n2 n3 k=>⟨rfl,?_⟩
 obtain e1:=S.xr.symm
 obtain e2:=(neN AS n2).symm
 obtain e3:=(neN AS n3).symm;rw[AL e1]at n1;rw[AL e2]at n2;rw[AL e3]at n3;refine q x d r dr la be AE ?_ S (CZ nx) n1 n2 n3;intro b o' e;obtain this:=neN e (CZ nx);exact AG (k b this (by rw[AL this,e];simp))<|AG (AL this) e
theorem DL.grow(s:DE V AE)(S:DL V r dr la be o sz L B):DL AE r dr la be o sz L B:=⟨s _ _ S.inst,s _ _ S.last,s _ _ S.before,S.len,S.small⟩
theorem G8.grow(s:DE V AE)(S:G8 V x d r dr la be o le wi ch ah L B):G8 AE x d r dr la be o le wi ch ah L B:=⟨s _ _ S.inst,S.row.grow s,S.xr⟩
theorem G8.ii(S:G8 V x d r dr la be o le wi ch ah L B):EI V (.ref x) 501 UU (UW o le wi ch ah r):=.inr (Aj x d ⟨rfl,S.inst⟩)
theorem D6(h:V a=none):DE V (V.set a o):=bC (λZ Z e=>e) h
structure R5(o:List Int)(L:List (Int×Int))(B:List Int)(p:Int):Prop where
 b:∀v∈B,-1<=v/\v<o.length
 l:∀k v,Ak L k=some v->0<=v/\v<p
theorem R5.last(h:R5 o L B p)(h0:0<=p):-1<=C_ L k/\C_ L k<p:=by
 unfold C_
 cases k with
 |none=>constructor<;>simp<;>exact Aw 77125321832333849 rfl h0
 |some k=>
  simp only
  cases e:Ak L k with
  |none=>simp;exact Aw 77125321832333849 rfl h0
  |some v=>have:=h.l k v e;simp;exact Bd 0x11031013110130112517110130102179 rfl this
noncomputable def cands(B:List Int)(wi p:Int):Nat->Int->List Int
 |0,_=>[]
 |f+1,r=>if r≠-1/\p-r<=wi then r::cands B wi p f (B.getD r.toNat (-1))else[]
theorem Ir:(∀(B:List Int)(wi p x:Int),cands B wi p 0 x=[])/\(∀(B:List Int)(wi p x:Int)(f:Nat),cands B wi p (f+1) x=if x≠-1/\p-x<=wi then x::cands B wi p f (B.getD x.toNat (-1))else[]):=⟨by intros;rfl,by intros;rfl⟩
theorem v9(S:G8 V x d r dr la be o le wi ch ah L B)(T:Txt o)(R:R5 o L B p)(h0:0<=p)(h1:p<o.length)(s0:1<=le)(s1:le<=4)(c0:0<=ch)(c1:ch<=1001)
 (q:Q (.lst ((cands B wi p ch.toNat (C_ L (BL o le p))).map .int)) V):Ag w h₀ 3 491 [.ref x,.int p] V Q:=by
 obtain this:=T.len;obtain hl:=R.last (k:=BL o le p) h0;refine Ag.cv<|Bg ["self","place"] ["found","other"] ["len"] [] [] (by kernel_rfl) (by kernel_rfl)<|AA<|JI ?_
 intro f nf;obtain CI:=CZ nf;obtain S1:=S.grow (D6 (o:=.list []) CI);refine AA<|Ax S1.ii YN rfl<|AA<|Bw (.inr (Aj r dr ⟨rfl,S1.row.inst⟩)) (by decide) YY<|AA<|aU S1.row T h0 (Bp 0x1120080110080139 rfl h1) s0 s1 hl.2<|AA<|J8 (λn AE m=>∃(Az:List Int)(r:Int)(k:Nat),n=k/\AE=V.set f (.list (Az.map .int))/\(ch.toNat=Az.length+k)/\(-1<=r/\r<o.length)/\cands B wi p ch.toNat (C_ L (BL o le p))=Az++cands B wi p k r/\
  m=([("self",some (.ref x)),("place",some (.int p)),("found",some (.ref f)),("other",some (.int r))]:Lc)) ch.toNat (BK ([]) _ _ (Cc rfl rfl (by simp) (by exact Dv 397642983396930533414138366386308584770044076495161 (by kernel_rfl) h1 hl) (by simp) rfl)) ?_
 intro n AE m Dh;(refine A1 Dh λAz r' k Af=>?_;obtain hnk:=Af.1;obtain K5:=Af.2.1;obtain hk:=Af.2.2.1;obtain hr:=Af.2.2.2.1;obtain hc:=Af.2.2.2.2.1;obtain Cs:=Af.2.2.2.2.2;clear Af;try clear Dh;subst K5;subst Cs);subst hnk;obtain S2:=S.grow (D6 (o:=.list (Az.map .int)) CI);apply Be;intro mz Kz;refine AA<|Bw S2.ii (by decide) zH<|AA<|Ri S2.fin<|AA<|BW (λhn=>?_) (λhn=>?_)
 ·refine AA<|J5 (Bi AS) (by simp;exact Bm 0x10110007101100170ff4f2f4f0f200010003019493ef9f20119 rfl c1 hk)<|AA<|Ax S2.ii ya rfl<|AA<|BW (λhd=>?_) (λhd=>?_)
  ·refine AA<|FN (Bi AS)<|AA<|FK AS (by simp;exact Bm 0x101100071011001718f6faf0f200010003019493ef9f20119 rfl c1 hk)<|AD set_set ?_
   obtain S3:=S.grow (D6 (o:=.list (Az.map .int++[.int r'])) CI);refine AA<|Ax S3.ii YN rfl<|AA<|Ax (.inr (Aj r dr ⟨rfl,S3.row.inst⟩)) jS rfl<|AA ?_
   obtain hB:=S.row.len;refine CR (x:=.int (B.getD r'.toNat (-1))) (Bi S3.row.before) (RQ 0x1013101005010212101114112501567900801301125179 rfl hr hn) (Bp 0x1101480f0f0f0f0f0f0f0f0f0f0f0f0f0f0f2013008013011251793ef8f20009 rfl this hr) ?_ ?_
   ·(refine AG (EU)<|AD (Ee (dK h0 h1 hr hB)) ?_;rw[Ej];refine AD (Ee (dK h0 h1 hr hB)) ?_);rfl
   simp at hd;obtain Kf:n=(n-1)+1:=by exact dM hk hd
   refine⟨(n-1),⟨(Ah 0x10100510000510001510000500120042121200430049 rfl Kf),(BK (Az++[r']) _ (n-1) (Cc rfl (by simp) (by simp;exact Bm 0x10010010091100000000a100000100910000001091000100100a1100000001a1010001009100000011910000110091100000000a100000100910000001091000001100a1100000001a1010001009100000011910110010091100000000a10100010091000000119100100100910000101091000001009100000010910100110091100000000a1010001009100000011910000110091100000109100000100910000001091210412003301941212104310491000301949 rfl hk Kf) (R.b _ ?_) ?_ rfl))⟩⟩
   ·(rw[Ej];refine AD (Ee (dK h0 h1 hr hB)) ?_);exact N_ _
   ·refine AG hc<|AD Kf ?_
    simp only[Ir];refine AD (if_pos hn) ?_;simp
  ·simp at hd;obtain this:n=0:=by exact Bm 0x11000061010100711000061110050200410801190010301949 rfl hk hd
   subst this;simp only[Ir,HS]at hc;refine .list AS (.done ?_);refine AD (Gh nf)<|AD (A0 hc) ?_;exact q
 ·refine AA (De ?_);refine .list AS (.done ?_);refine AD (Gh nf) ?_;cases n with
  |zero=>simp only[Ir,HS]at hc;refine AD (A0 hc) ?_;exact q
  |succ n=>simp only[Ir]at hc;rw[if_neg hn,HS]at hc;refine AD (A0 hc) ?_;exact q
noncomputable abbrev pv(p:Int×Int):MV:=.tup [.int p.1,.int p.2]
noncomputable def EW(o:List Int)(p lim:Nat):List Int->Nat->List (Int×Int)
 |[],_=>[]
 |c::cs,lo=>if lim<=lo then[]else if o.getD (c.toNat+lo) 0=o.getD (p+lo) 0 then
  (if lo<BF o p c.toNat lim 0 then((BF o p c.toNat lim 0:Int),(p:Int)-c)::EW o p lim cs (BF o p c.toNat lim 0)else EW o p lim cs lo)else EW o p lim cs lo
theorem Jb:(∀(o:List Int)(p lim x:Nat),EW o p lim [] x=[])/\(∀(o:List Int)(p lim x:Nat)(c:Int)(cs:List Int),EW o p lim (c::cs) x=if lim<=x then[]else if o.getD (c.toNat+x) 0=o.getD (p+x) 0 then if x<BF o p c.toNat lim 0 then((↑(BF o p c.toNat lim 0):Int),(↑p:Int)-c)::EW o p lim cs (BF o p c.toNat lim 0)else EW o p lim cs x else EW o p lim cs x):=⟨by intros;rfl,by intros;rfl⟩
theorem Xq{B:List Int}{wi p:Int}{len:Nat}(hB:∀v∈B,-1<=v/\v<len):∀(f:Nat)(r:Int),-1<=r->∀c∈cands B wi p f r,0<=c/\(c=r\/c∈B)
 |0,r,_,c,h=>by simp[Ir]at h
 |f+1,r,hr,c,h=>by
  simp only[Ir]at h;split at h
  ·rename_i z;rcases CH.mp h with e|h
   ·exact⟨by exact IL 0x112110010601021110159311121411251156791112519 rfl hr z e,.inl e⟩
   ·have hb:-1<=B.getD r.toNat (-1)/\(B.getD r.toNat (-1)=-1\/B.getD r.toNat (-1)∈B):=by
     rw[Ej];cases e:B[r.toNat]? with
     |none=>simp
     |some v=>exact⟨(hB v (XO e)).1,.inr (XO e)⟩
    have:=Xq hB f _ hb.1 c h;refine⟨this.1,?_⟩;rcases this.2 with e|e
    ·rcases hb.2 with z|z
     ·omega
     ·exact .inr (e▸z)
    ·exact .inr e
  ·cases h
theorem gq:∀(f:Nat)(r:Int),(cands B wi p f r).length<=f
 |0,_=>by simp[Ir]
 |f+1,r=>by
  simp only[Ir];split
  ·simp;exact gq f _
  ·simp
theorem wB{o:List Int}{le wi ch ah pi mo:Int}{B:List Int}(S:G8 V x d r dr la be o le wi ch ah L B)(T:Txt o)(R:R5 o L B pi)(p lim:Nat)(ep:pi=p)(el:min mo (o.length-pi)=lim)(h1:p<o.length)
 (s0:1<=le) (s1:le<=4) (c0:0<=ch) (c1:ch<=1001) (hc:∀c∈cands B wi pi ch.toNat (C_ L (BL o le pi)),c<pi)
 (q:Q (.lst ((EW o p lim (cands B wi pi ch.toNat (C_ L (BL o le pi))) (le-1).toNat).map pv)) V):Ag w h₀ 4 498 [.ref x,.int pi,.int mo] V Q:=by
 obtain this:=T.len;refine Ag.cv<|Bg ["self","place","most"] ["found","limit","longest","other","count"] [] [] [] (by kernel_rfl) (by kernel_rfl)<|AA<|JI ?_
 intro f nf;obtain CI:=CZ nf;obtain S1:=S.grow (D6 (o:=.list []) CI);refine AA<|Bw S1.ii (by decide) zF<|AA<|Z2 S1.fin T<|AD el<|AA<|Ax S1.ii jU rfl<|AA ?_
 obtain e0:le-1=((le-1).toNat:Int):=by exact Aw 0x10131103100310031201498120145011219 rfl s0
 refine AD e0 ?_;obtain IC:=Xq (wi:=wi) (p:=pi) R.b ch.toNat (C_ L (BL o le pi)) (R.last (WY ep)).1;obtain hlen:=gq (B:=B) (wi:=wi) (p:=pi) ch.toNat (C_ L (BL o le pi));generalize NB:cands B wi pi ch.toNat (C_ L (BL o le pi))=all at q hc IC hlen;refine Bw S1.ii (by decide) zM<|AA<|v9 S1 T R (WY ep) (Bm 0x110140080130010291080159 rfl ep h1) s0 s1 c0 c1<|AD NB<|AA ?_
 let Dy:List MV->Hp->Lc->Prop:=λAN AE m=>∃(Az:List (Int×Int))(lo:Nat)(cs:List Int)(oc oo:Option MV),AN=cs.map MV.int/\AE=V.set f (.list (Az.map pv))/\(∀c∈cs,c∈all)/\Az.length+cs.length<=1001/\EW o p lim all (le-1).toNat=Az++EW o p lim cs lo/\m=([("self",some (.ref x)),("place",some (.int pi)),("most",some (.int mo)),("found",some (.ref f)),("limit",some (.int lim)),("longest",some (.int lo)),("other",oo),("count",oc)]:Lc);refine EO Dy (.lst _ _) (λZ Z Z Z Z=>trivial) (λZ Z Z=>trivial) ((D_ ([]) _ all _ _ (Cc rfl rfl (λc h=>h) (by simp;exact Bp 0x11004110143ef9f200001900093ef9f20119 rfl c1 hlen) (by simp) rfl))) ?_ ?_
 ·intro mv AN AE m Am;refine GK Am λAz lo cs oc oo As=>Em As λhr CX Q4 EB hd C3=>?_;clear As Am;subst CX;subst C3;cases cs with
  |nil=>exact cN hr
  |cons c cs=>
   simp only[By,Dj]at hr;obtain⟨rfl,rfl⟩:=hr;obtain S2:=S.grow (D6 (o:=.list (Az.map pv)) CI);obtain cin:=Q4 c (.head _);obtain c0:=(IC c cin).1;obtain c1:=hc c cin
   apply Be;intro mz Kz;refine AA<|BW (λhb=>?_) (λhb=>?_)
   ·skip;obtain this:EW o p lim (c::cs) lo=[]:=by simp only[Jb];exact AG (if_pos (AM 0x1121000010800819 rfl hb)) rfl
    rw[this,HS]at hd;refine .list AS (.done ?_);refine AD (Gh nf)<|AD (A0 hd) ?_;exact q
   ·refine AA<|Ax S2.ii Uc rfl<|AA<|Hr (Bp 0x1113008013021010219 rfl c0) (VD 0x11110061111016108008013300820816911013920811108421a59 rfl el c1 hb) (EP this)<|AA<|Ax S2.ii Uc rfl<|AA<|Hr (Bm 0x1111050080130211080159 rfl ep) (Jo 0x111005111015108008013300820816920801108411a59 rfl el hb) (EP this)<|AA<|AD (show(c+(lo:Int)).toNat=c.toNat+lo by exact Bp 0x10114110005101041100151001411004100041000400019300801394010219 rfl c0)<|AD (show(pi+(lo:Int)).toNat=p+lo by exact Bm 0x111041110006101041001400103008013941080159 rfl ep) ?_
    refine F6 (λhe=>?_) (λhe=>?_)
    ·refine AA<|Bw S2.ii (by decide) zG<|AA<|Rh S2.fin T p c.toNat 0 lim ep (Aw 0x10131103100310030198015010219 rfl c0) rfl rfl (Jo 0x110010611011062010003010811208401a590081159 rfl ep el) (O7 0x1011100710101007101110171010101710000193011013901021900811108421a59 rfl el c0 c1) ?_
     simp only[ff];refine AA<|BW (λhg=>?_) (λhg=>?_)
     ·refine AA<|FN (Bi AS)<|AA<|FK AS (by simp at EB|-;exact AM 0x1011418f6faf0f20003ef9f21210300309 rfl EB)<|AD set_set<|(D_ (Az++[(((BF o p c.toNat lim 0:Nat):Int),pi-c)]) _ cs _ _ (Cc rfl (by simp) (λc h=>Q4 c (.tail _ h)) (by simp at EB|-;exact AM 0x1123ef9f21012003303ef9f21210300309 rfl EB) ?_ rfl))
      apply AG hd;simp only[Jb];refine AD (if_neg (AM 0x112100006108008169 rfl hb))<|AD (if_pos he)<|AD (if_pos (Sl hg))<|AD ep ?_
      simp
     ·skip;refine(D_ Az lo cs _ _ (Cc rfl rfl (λc h=>Q4 c (.tail _ h)) (by simp at EB|-;exact AM 0x1123ef9f21000303ef9f21210300309 rfl EB) ?_ rfl));apply AG hd;simp only[Jb];rw[if_neg (by exact AM 315972550273060077929 (by kernel_rfl) hb),if_pos he,if_neg (by exact AM 315972552472083333993 (by kernel_rfl) hg)]
    ·skip;refine(D_ Az lo cs _ _ (Cc rfl rfl (λc h=>Q4 c (.tail _ h)) (by simp at EB|-;exact AM 0x1123ef9f21000303ef9f21210300309 rfl EB) ?_ rfl));apply AG hd;simp only[Jb];rw[if_neg (by exact AM 315972550273060077929 (by kernel_rfl) hb),if_neg he]
 ·intro AE m Am;refine GK Am λAz lo cs oc oo As=>Em As λhr CX Q4 EB hd C3=>?_;clear As Am;subst CX;subst C3;cases cs with
  |cons c cs=>exact nC hr
  |nil=>
   simp only[Jb,HS]at hd;refine .list AS (.done ?_);refine AD (Gh nf)<|AD (A0 hd) ?_;exact q
theorem Je{α:Type}[DecidableEq α]{k k' v}:∀{l:List (α×Int)},Ak (dput l k v) k'=if k=k' then some v else Ak l k'
 |[]=>by simp[OT,Ha]
 |(a,b)::l=>by
  simp only[OT];by_cases h:a=k
  ·subst h;by_cases h2:a=k'
   ·simp[Ha,h2]
   ·simp[Ha,h2]
  ·simp only[h,if_false,Ha];by_cases h2:a=k'
   ·subst h2;have:¬k=a:=λz=>h z.symm;simp[this]
   ·simp only[h2,if_false];exact Je
theorem G9{α:Type}[DecidableEq α]{k v}:∀{l:List (α×Int)},(dput l k v).length<=l.length+1
 |[]=>by simp[OT]
 |(a,b)::l=>by
  simp only[OT];split
  ·simp
  ·simp;exact G9
noncomputable def A_(o:List Int)(sz:Int):Nat->List (Int×Int)×List Int
 |0=>([],CD o.length (-1))
 |k+1=>(Jy (A_ o sz k).1 (BL o sz k) k,Kt (A_ o sz k).2 (A_ o sz k).1 (BL o sz k) k)
theorem MH:(∀(o:List Int)(sz:Int),A_ o sz 0=([],CD o.length (-1)))/\(∀(o:List Int)(sz:Int)(k:Nat),A_ o sz (k+1)=(Jy (A_ o sz k).fst (BL o sz (↑k:Int)) (↑k:Int),Kt (A_ o sz k).snd (A_ o sz k).fst (BL o sz (↑k:Int)) (↑k:Int))):=⟨by intros;rfl,by intros;rfl⟩
structure R4(o:List Int)(k:Nat)(L:List (Int×Int))(B:List Int):Prop where
 b:∀v∈B,-1<=v/\v<k
 l:∀j v,Ak L j=some v->0<=v/\v<k
 bl:B.length=o.length
 ll:L.length<=k
theorem MI(o)(sz):∀k,R4 o k (A_ o sz k).1 (A_ o sz k).2
 |0=>⟨λv h=>by simp[MH]at h;exact dP h.2,λj v h=>by simp[MH,Ha]at h,by simp[MH],by simp[MH]⟩
 |k+1=>by
  obtain ih:=MI o sz k
  simp only[MH]
  cases BL o sz k with
  |none=>exact⟨λv h=>by obtain this:=ih.b v h;exact Bp 0x11031013120038013011251700801301125179 rfl this,λj v h=>by obtain this:=ih.l j v h;exact WZ this,ih.bl,by obtain this:=ih.ll;simp only[Jy];exact HP this⟩
  |some key=>
   simp only[Jy,Kt]
   refine⟨λv h=>?_,λj v h=>?_,by apply AG fQ;exact ih.bl,?_⟩
   ·rcases XR h with h|h
    ·obtain this:=ih.b v h;exact Bp 0x11031013120038013011251700801301125179 rfl this
    ·refine AD h ?_
     cases e:Ak (A_ o sz k).1 key with
     |none=>simp;exact Ah 301343504011859 rfl
     |some u=>obtain this:=ih.l key u e;simp;exact Bp 0x1103101312008301301125170080130102179 rfl this
   ·rw[Je]at h
    split at h
    ·(obtain zI:=Au h;subst zI);exact Ah 0x1111212003800830080217 rfl
    ·obtain this:=ih.l j v h;exact WZ this
   ·obtain this:=G9 (l:=(A_ o sz k).1) (k:=key) (v:=(k:Int));obtain this:=ih.ll;exact Sr (by assumption) this
theorem R4.ok(h:R4 o k L B)(hk:k<=o.length):R5 o L B k:=⟨λv hv=>by have:=h.b v hv;exact dQ hk this,λj v hv=>h.l j v hv⟩
theorem R4.cands(h:R4 o k L B):∀c∈cands B wi k f (C_ L key),c<k:=by
 intro c hc
 have hr:-1<=C_ L key/\C_ L key<k:=by
  unfold C_
  cases key with
  |none=>simp;exact FT
  |some j=>
   cases e:Ak L j with
   |none=>simp[e];exact FT
   |some v=>obtain this:=h.l j v e;simp[e];exact Ss this
 obtain this:=(Xq (len:=k) h.b f _ hr.1 c hc).2;rcases this with e|e
 ·exact Dv 0x10110500801311015900811311125179 rfl hr e
 ·exact(h.b c e).2
structure H0(lv:Nat)(w:CE)(h₀:BU)(x cls:AU)(N:Nat)(le:Int)(W:AU->Prop)(St:Hp->Nat->Prop)(rec:Nat->Int->List (Int×Int)):Prop where
 inst:∀V k,St V k->∃d ks vs,V x=some (.inst cls d ks vs)/\CL "put"∉ks/\CL "every"∉ks/\H7 ks vs "least"=some (.int le)
 ga:(∀P,GA P cls "least")
 put:(∀P,GM P cls "put" 392)
 X9:∃f,(∀P,GM P cls "every" f)/\∀V k mo(Q:MV->Hp->Prop),St V k->k<N->1<=mo->Q (.lst ((rec k mo).map pv)) V->Ag w h₀ lv f [.ref x,.int (k:Nat),.int mo] V Q
 X2:∀V k(Q:MV->Hp->Prop),St V k->k<N->(∀AE,St AE (k+1)->(∀a,¬W a->AE a=V a)->Q .none AE)->Ag w h₀ lv 392 [.ref x,.int (k:Nat)] V Q
 grow:∀V AE k,(∀a,W a->AE a=V a)->St V k->St AE k
 X3:∀V k a,St V k->W a->V a≠none
theorem Ag.up(h:Ag w h₀ n f args V Q)(l:n<=n'):Ag w h₀ n' f args V Q:=λA s D vs a b c d=>h A s D vs (a.le l) b c d
theorem H0.up{lv mR w h₀ x cls N le W St rec}(F:H0 lv w h₀ x cls N le W St rec)(l:lv<=mR):H0 mR w h₀ x cls N le W St rec:=
 ⟨F.inst,F.ga,F.put,(by(refine AI F.X9 λf AR=>?_;refine BQ AR λg k=>?_);exact⟨f,⟨g,(λV j mo Q a b c d=>(k V j mo Q a b c d).up l)⟩⟩),λV k Q a b c=>(F.X2 V k Q a b c).up l,F.grow,F.X3⟩
theorem wA{o:List Int}{le wi ch ah p:Int}{B:List Int}(S:G8 V x d r dr la be o le wi ch ah L B)(T:Txt o)(h0:0<=p)(h1:p<o.length)(s0:1<=le)(s1:le<=4)
 (q:Q .none ((V.set be (.list ((Kt B L (BL o le p) p).map .int))).set la (.di (Jy L (BL o le p) p)))):Ag w h₀ 3 484 [.ref x,.int p] V Q:=by
 refine Bg ["self","place"] [] [] [] [] (by kernel_rfl) (by kernel_rfl)<|AA<|Ax S.ii YN rfl<|AA<|Bw (.inr (Aj r dr ⟨rfl,S.row.inst⟩)) (by decide) YX<|AA<|aV S.row T h0 h1 s0 s1<|q
noncomputable def chFn(o:List Int)(le wi ch:Int)(k:Nat)(mo:Int):List (Int×Int):=
 EW o k (min mo (o.length-k)).toNat (cands (A_ o le k).2 wi k ch.toNat (C_ (A_ o le k).1 (BL o le k))) (le-1).toNat
theorem wC{o:List Int}{le wi ch:Int}(T:Txt o)(s0:1<=le)(s1:le<=4)(c0:0<=ch)(c1:ch<=1001):
 H0 6 w h₀ x 501 o.length le (λa=>a=x\/a=r\/a=la\/a=be) (λV k=>G8 V x d r dr la be o le wi ch k (A_ o le k).1 (A_ o le k).2) (chFn o le wi ch):=by
 obtain this:=T.len
 refine⟨λV k S=>(BK _ _ _ (BR S.inst (by decide) (by decide) rfl)),jU,zD,⟨_,⟨zN,(λV k mo Q S hk hm q=>?_)⟩⟩,λV k Q S hk q=>?_,λV AE k h S=>?_,λV k a S h=>?_⟩
 ·obtain ri:=MI o le k
  exact Ag.up (wB S T (ri.ok (DH hk)) k _ rfl (dR hk hm) hk s0 s1 c0 c1 ri.cands q) (by decide)
 ·obtain ri:=MI o le k
  obtain xl:=neT S.inst S.row.last rfl
  obtain xb:=neT S.inst S.row.before rfl
  obtain rl:=neT S.row.inst S.row.last rfl
  obtain rb:=neT S.row.inst S.row.before rfl
  obtain lb:la≠be:=neT S.row.last S.row.before rfl;refine Ag.up (Z3 S.inst S.fin T yZ zz zL rfl (by decide) (by decide) (FY _) (MW hk) (n:=3) ?_) (by decide)
  obtain S':G8 (V.set x (.inst 501 d UU (UW o le wi ch (k+1:Int) r))) x d r dr la be o le wi ch (k+1:Int) (A_ o le k).1 (A_ o le k).2:=
   ⟨AS,⟨by apply AG (AL S.xr.symm);exact S.row.inst,by apply AG (AL xl.symm);exact S.row.last,by apply AG (AL xb.symm);exact S.row.before,S.row.len,S.row.small⟩,S.xr⟩
  refine wA S' T ER (MW hk) s0 s1 (q _ ⟨?_,⟨?_,?_,?_,?_,?_⟩,S.xr⟩ λa ha=>?_)
  ·refine AG (AL xl)<|AG (AL xb) ?_;exact S'.inst
  ·refine AG (AL rl)<|AG (AL rb) ?_;exact S'.row.inst
  ·apply AG AS;rfl
  ·refine AG (AL lb.symm)<|AG AS ?_;rfl
  ·exact(MI o le (k+1)).bl
  ·obtain this:=(MI o le (k+1)).ll;exact AQ 0x111143ef8f20001210300092010293ef8f22009 rfl (by assumption) hk this
  ·simp only[not_or]at ha
   rw[AL ha.2.2.1,AL ha.2.2.2,AL ha.1]
 ·exact⟨by apply AG (h _ (.inl rfl));exact S.inst,⟨by apply AG (h _ (.inr (.inl rfl)));exact S.row.inst,by apply AG (h _ (.inr (.inr (.inl rfl))));exact S.row.last,by apply AG (h _ (.inr (.inr (.inr rfl))));exact S.row.before,S.row.len,S.row.small⟩,S.xr⟩
 ·rcases h with rfl|rfl|rfl|rfl
  ·refine AD S.inst ?_;simp
  ·refine AD S.row.inst ?_;simp
  ·refine AD S.row.last ?_;simp
  ·refine AD S.row.before ?_;simp
theorem z6:Gs 549 "ahead":=gs rfl
theorem z9:Gs 549 "row":=gs rfl
theorem z8:Gs 549 "roots":=gs rfl
theorem z_:Gs 549 "smaller":=gs rfl
theorem z7:Gs 549 "greater":=gs rfl
theorem Iy:Ga 549 "octets":=ga rfl
theorem jX:Ga 549 "least":=ga rfl
theorem yc:Ga 549 "window":=ga rfl
theorem jW:Ga 549 "chain":=ga rfl
theorem jV:Ga 549 "ahead":=ga rfl
theorem jY:Ga 549 "row":=ga rfl
theorem YO:Ga 549 "roots":=ga rfl
theorem Qw:Ga 549 "smaller":=ga rfl
theorem Qv:Ga 549 "greater":=ga rfl
theorem zO:Gm 549 "put" 392:=gm rfl
theorem zS:Gm 549 "enter" 532:=gm rfl
theorem zQ:Gm 549 "limit" 413:=gm rfl
theorem ji:Gm 549 "alike" 427:=gm rfl
theorem jj:Gm 549 "is_near" 434:=gm rfl
theorem Lf:Gm 549 "hang" 525:=gm rfl
theorem zT:Gm 549 "part" 539:=gm rfl
theorem zU:Gm 549 "every" 546:=gm rfl
theorem yr:Gc 549 518:=gc rfl
noncomputable abbrev V1:List AV:=["octets","least","window","chain","ahead","row","roots","smaller","greater"]
noncomputable abbrev V3(o:List Int)(le wi ch ah:Int)(r ro sm gr:AU):List MV:=[.bytes o,.int le,.int wi,.int ch,.int ah,.ref r,.ref ro,.ref sm,.ref gr]
structure OH where
 x:AU
 d:AU
 r:AU
 dr:AU
 la:AU
 be:AU
 ro:AU
 sm:AU
 gr:AU
structure DN(V:Hp)(a:OH)(o:List Int)(le wi ch ah:Int)(RO:List (Int×Int))(SM GR:List Int):Prop where
 inst:V a.x=some (.inst 549 a.d V1 (V3 o le wi ch ah a.r a.ro a.sm a.gr))
 row:DL V a.r a.dr a.la a.be o le [] (CD o.length (-1))
 roots:V a.ro=some (.di RO)
 EE:V a.sm=some (.list (SM.map .int))
 EA:V a.gr=some (.list (GR.map .int))
 ls:SM.length=o.length
 lg:GR.length=o.length
 lr:RO.length<=1000
 xr:a.x≠a.r
 sg:a.sm≠a.gr
 sb:a.sm≠a.be
 gb:a.gr≠a.be
 rl:a.ro≠a.la
theorem DN.ii(S:DN V a o le wi ch ah RO SM GR):EI V (.ref a.x) 549 V1 (V3 o le wi ch ah a.r a.ro a.sm a.gr):=.inr (Aj a.x a.d ⟨rfl,S.inst⟩)
theorem DN.fin(S:DN V a o le wi ch ah RO SM GR):Fin P V (.ref a.x) 549 V1 (V3 o le wi ch ah a.r a.ro a.sm a.gr) o wi:=⟨S.ii,Iy,yc,rfl,rfl⟩
theorem DN.grow(s:DE V AE)(S:DN V a o le wi ch ah RO SM GR):DN AE a o le wi ch ah RO SM GR:=
 ⟨s _ _ S.inst,S.row.grow s,s _ _ S.roots,s _ _ S.EE,s _ _ S.EA,S.ls,S.lg,S.lr,S.xr,S.sg,S.sb,S.gb,S.rl⟩
theorem Ae3(hx:V x=some (.inst 549 d [] []))(T:Txt o)(h1:1<=le)(h2:1<=wi)(h3:1<=ch)
 (q:∀a AE,a.x=x->DN AE a o le wi ch 0 [] (CD o.length (-1)) (CD o.length (-1))->(∀b,b=a.r\/b=a.la\/b=a.be\/b=a.ro\/b=a.sm\/b=a.gr->V b=none)->(∀b,b≠x->V b≠none->AE b=V b)->Q .none AE):
 Ag w h₀ 3 518 [.ref x,.bytes o,.int le,.int wi,.int ch] V Q:=by
 have:=T.len
 obtain⟨t,hN⟩:=L7 w.params
 refine Bg ["self","octets","least","window","chain"] [] ["Matcher","PlaceRow","NOWHERE","len"] [] [] (by kernel_rfl) (by kernel_rfl)<|AA<|Z1 (by intro n hn;simp only[CH,Fe,or_false]at hn;rcases hn with rfl|rfl|rfl|rfl|rfl<;>exact λZ=>⟨rfl,rfl,rfl,rfl⟩) hx h1 h2 h3<|AA<|Ax (.inr (Aj x d ⟨rfl,AS⟩)) Iy rfl<|AA<|Vk T h1 λr dr la be CC hs S n1 n2 n3=>AA ?_
 have e1:r≠x:=(neN AS n1).symm
 have e2:la≠x:=(neN AS n2).symm
 have e3:be≠x:=(neN AS n3).symm
 obtain D5:=hs _ _ AS
 refine Df D5 z9 (by decide)<|AA<|Pc λro nJ=>AA ?_
 have f1:=Kp nJ
 have r1:=Kq nJ
 refine Df (by apply AG (AL f1.symm);exact AS) z8 (by decide) ?_
 refine AA<|CU<|AA<|Ax (.inr (Aj x d ⟨rfl,AS⟩)) Iy rfl<|AA<|FL (EP this)<|AA<|Pd BY (WW this) WX λsm nN=>AA ?_
 have f2:=Kp nN
 have s1:=Kq nN
 refine Df (by apply AG (AL f2.symm);exact AS) z_ (by decide) ?_
 refine AA<|CU<|AA<|Ax (.inr (Aj x d ⟨rfl,AS⟩)) Iy rfl<|AA<|FL (EP this)<|AA<|Pd BY (WW this) WX λgr m_=>AA ?_
 have f3:=Kp m_
 have g1:=Kq m_
 refine Df (by apply AG (AL f3.symm);exact AS) z7 (by decide) ?_
 have om:sm≠ro:=(neN AS s1).symm
 rw[AL om,AL f2]at s1
 have YZ:gr≠sm:=(neN AS g1).symm
 rw[AL YZ,AL f3]at g1
 have jr:gr≠ro:=(neN AS g1).symm
 rw[AL jr,AL f3]at g1
 have nr:∀b o',CC b=some o'->b≠ro/\b≠sm/\b≠gr:=λb o' e=>(AO (λz=>(by rw[z,r1]at e;exact nS e)) (λz=>(by rw[z,s1]at e;exact nS e)) (λz=>(by rw[z,g1]at e;exact nS e)))
 refine q ⟨x,d,r,dr,la,be,ro,sm,gr⟩ _ rfl ⟨?_,⟨?_,?_,?_,S.len,S.small⟩,?_,?_,?_,by simp,by simp,by simp,e1.symm,YZ.symm,(nr be _ S.before).2.1.symm,(nr be _ S.before).2.2.symm,(nr la _ S.last).1.symm⟩ ?_ ?_
 ·apply AG AS;rfl
 ·have z:=nr r _ S.inst
  simp only[AL e1,AL z.1,AL z.2.1,AL z.2.2];exact S.inst
 ·have z:=nr la _ S.last
  simp only[AL e2,AL z.1,AL z.2.1,AL z.2.2];exact S.last
 ·have z:=nr be _ S.before
  simp only[AL e3,AL z.1,AL z.2.1,AL z.2.2];exact S.before
 ·simp only[AL f1,AL om.symm,AL jr.symm,AS]
 ·simp only[AL f2,AL YZ.symm,AS];rw[HR,Z0]
 ·simp only[AL f3,AS];rw[HR,Z0]
 ·have back:∀b,b≠x->CC b=none->V b=none:=λb n e=>by have:=NZ hs e;rwa[AL n]at this
  intro b hb
  rcases hb with rfl|rfl|rfl|rfl|rfl|rfl
  ·rwa[AL e1]at n1
  ·rwa[AL e2]at n2
  ·rwa[AL e3]at n3
  ·exact back _ f1 r1
  ·exact back _ f2 s1
  ·exact back _ f3 g1
 ·intro b hb hn
  cases e:V b with
  |none=>exact absurd e hn
  |some o'=>
   have e':=hs b o' (by apply AG (AL hb);exact e)
   have z:=nr b o' e'
   simp only[AL hb,AL z.1,AL z.2.1,AL z.2.2];exact e'
theorem pw(T:Txt o)(h1:1<=le)(h2:1<=wi)(h3:1<=ch)
 (q:∀a AE,DE V AE->DN AE a o le wi ch 0 [] (CD o.length (-1)) (CD o.length (-1))->(∀b,b=a.x\/b=a.r\/b=a.la\/b=a.be\/b=a.ro\/b=a.sm\/b=a.gr->V b=none)->Q (.ref a.x) AE):
 Ag w h₀ 4 549 [.bytes o,.int le,.int wi,.int ch] V Q:=by
 refine Jg (yr _) λx d nx nd ne=>Ae3 AS T h1 h2 h3 λa AE ha S n k=>⟨rfl,?_⟩;(try clear ne;subst ha);refine q a AE ?_ S ?_
 ·intro b o' e;obtain this:=neN e (CZ nx);exact AG (k b this (by rw[AL this,e];simp))<|AG (AL this) e
 ·intro b hb;rcases hb with rfl|hb
  ·exact CZ nx
  ·obtain z:=n b hb;obtain this:b≠a.x:=λy=>by rw[y,AS]at z;exact sN z
   rwa[AL this]at z
noncomputable def Gq(V:Hp)(a:OH)(SM GR:List Int):Hp:=(V.set a.sm (.list (SM.map .int))).set a.gr (.list (GR.map .int))
theorem MP(h:a.sm≠a.gr):Gq (Gq V a SM GR) a T5 TN=Gq V a T5 TN:=by
 unfold Gq;funext b;by_cases e1:b=a.gr
 ·subst e1;simp[AS]
 ·refine AG (AL e1)<|AD (AL e1) ?_
  by_cases e2:b=a.sm
  ·(try clear e1;subst e2);simp[AS]
  ·rw[AL e2,AL e2,AL e1,AL e2]
theorem DN.to(S:DN V a o le wi ch ah RO SM GR)(h1:T5.length=o.length)(h2:TN.length=o.length):DN (Gq V a T5 TN) a o le wi ch ah RO T5 TN:=by
 obtain xs:=neT S.inst S.EE rfl;obtain xg:=neT S.inst S.EA rfl;obtain rs:=neT S.row.inst S.EE rfl;obtain rg:=neT S.row.inst S.EA rfl;obtain ls:=neT S.row.last S.EE rfl;obtain lg:=neT S.row.last S.EA rfl;obtain os:=neT S.roots S.EE rfl;obtain og:=neT S.roots S.EA rfl;unfold Gq;exact⟨by refine AG (AL xg)<|AG (AL xs) ?_;exact S.inst,⟨by refine AG (AL rg)<|AG (AL rs) ?_;exact S.row.inst,by refine AG (AL lg)<|AG (AL ls) ?_;exact S.row.last,by refine AG (AL S.gb.symm)<|AG (AL S.sb.symm) ?_;exact S.row.before,S.row.len,S.row.small⟩,
  by refine AG (AL og)<|AG (AL os) ?_;exact S.roots,by exact AG (AL S.sg) AS,by exact AS,h1,h2,S.lr,S.xr,S.sg,S.sb,S.gb,S.rl⟩
noncomputable def BV(S:List Int×List Int)(ow:Int)(g:Bool)(v:Int):List Int×List Int:=if g=true then(S.1,S.2.set ow.toNat v)else(S.1.set ow.toNat v,S.2)
theorem MQ{o:List Int}{le wi ch ah ow v:Int}{SM GR:List Int}(S:DN V a o le wi ch ah RO SM GR)(T:Txt o)(h0:0<=ow)(h1:ow<o.length)
 (q:Q .none (Gq V a (BV (SM,GR) ow g v).1 (BV (SM,GR) ow g v).2)):Ag w h₀ 1 525 [.ref a.x,.int ow,.bool g,.int v] V Q:=by
 obtain this:=T.len;obtain l1:=S.ls;obtain l2:=S.lg;obtain k1:=set_same S.EE;refine Bg ["self","owner","is_greater","place"] [] [] [] [] (by kernel_rfl) (by kernel_rfl)<|AA<|Vr (λhg=>?_) (λhg=>?_)
 ·refine AA<|Ax S.ii Qv rfl<|AA<|J' S.EA h0 (dJ h1 this) (by simp;exact Bm 0x110140080131000491080139 rfl h1 l2) ?_
  unfold Gq BV at q;simp only[hg,if_true]at q;rw[k1,Te]at q;exact q
 ·refine AA<|Ax S.ii Qw rfl<|AA<|J' S.EE h0 (dJ h1 this) (by simp;exact Bm 0x110140080131000491080139 rfl h1 l1) ?_
  unfold Gq BV at q;simp only[hg]at q;rw[if_neg (by decide)]at q;simp only[Te]at q;rw[set_same (by rw[AL S.sg.symm];exact S.EA)]at q;exact q
noncomputable def Fm(o:List Int)(p:Nat)(wi:Int)(lim:Nat):Nat->(List Int×List Int)->Int->Bool->Nat->Int->Bool->Nat->Int->List Int×List Int
 |0,S,lo,lg,_,hi,hg,_,_=>BV (BV S lo lg (-1)) hi hg (-1)
 |f+1,S,lo,lg,lc,hi,hg,hc,r=>
  if r≠-1/\(p:Int)-r<=wi then
   if BF o p r.toNat (lim-min lc hc) (min lc hc)=lim then BV (BV S lo lg (S.1.getD r.toNat (-1))) hi hg ((BV S lo lg (S.1.getD r.toNat (-1))).2.getD r.toNat (-1))
   else if o.getD (r.toNat+BF o p r.toNat (lim-min lc hc) (min lc hc)) 0<o.getD (p+BF o p r.toNat (lim-min lc hc) (min lc hc)) 0 then
    Fm o p wi lim f (BV S lo lg r) r true (BF o p r.toNat (lim-min lc hc) (min lc hc)) hi hg hc ((BV S lo lg r).2.getD r.toNat (-1))
   else Fm o p wi lim f (BV S hi hg r) lo lg lc r false (BF o p r.toNat (lim-min lc hc) (min lc hc)) ((BV S hi hg r).1.getD r.toNat (-1))
  else BV (BV S lo lg (-1)) hi hg (-1)
theorem Rx:(∀(o:List Int)(p:Nat)(wi:Int)(lim:Nat)(x:List Int×List Int)(BE:Int)(CK:Bool)(Cf:Nat)(K0:Int)(K3:Bool)(HN:Nat)(Ei:Int),Fm o p wi lim 0 x BE CK Cf K0 K3 HN Ei=BV (BV x BE CK (-1)) K0 K3 (-1))/\(∀(o:List Int)(p:Nat)(wi:Int)(lim:Nat)(x:List Int×List Int)(BE:Int)(CK:Bool)(Cf:Nat)(K0:Int)(K3:Bool)(HN:Nat)(Ei:Int)(f:Nat),Fm o p wi lim (f+1) x BE CK Cf K0 K3 HN Ei=if Ei≠-1/\(↑p:Int)-Ei<=wi then if BF o p Ei.toNat (lim-DO Cf HN) (DO Cf HN)=lim then BV (BV x BE CK (x.fst.getD Ei.toNat (-1))) K0 K3 ((BV x BE CK (x.fst.getD Ei.toNat (-1))).snd.getD Ei.toNat (-1))else if o.getD (Ei.toNat+BF o p Ei.toNat (lim-DO Cf HN) (DO Cf HN)) 0<o.getD (p+BF o p Ei.toNat (lim-DO Cf HN) (DO Cf HN)) 0 then Fm o p wi lim f (BV x BE CK Ei) Ei TC (BF o p Ei.toNat (lim-DO Cf HN) (DO Cf HN)) K0 K3 HN ((BV x BE CK Ei).snd.getD Ei.toNat (-1))else Fm o p wi lim f (BV x K0 K3 Ei) BE CK Cf Ei eO (BF o p Ei.toNat (lim-DO Cf HN) (DO Cf HN)) ((BV x K0 K3 Ei).fst.getD Ei.toNat (-1))else BV (BV x BE CK (-1)) K0 K3 (-1)):=⟨by intros;rfl,by intros;rfl⟩
theorem Zh(o)(p q):∀f k,BF o p q f k<=f+k
 |0,k=>by simp[L2]
 |f+1,k=>by
  simp only[L2];split
  ·obtain this:=Zh o p q f (k+1);exact AQ 0x11220121033000122031030009 rfl this
  ·exact AM 72391850421596160 rfl
structure Hq(o:List Int)(p:Nat)(S:List Int×List Int):Prop where
 l1:S.1.length=o.length
 l2:S.2.length=o.length
 v1:∀v∈S.1,-1<=v/\v<p
 v2:∀v∈S.2,-1<=v/\v<p
theorem Hq.GL{v:Int}(h:Hq o p S)(hv:-1<=v/\v<p):Hq o p (BV S ow g v):=by
 unfold BV
 split
 ·refine⟨h.l1,by simp[h.l2],h.v1,λu hu=>?_⟩
  rcases XR hu with z|z
  ·exact h.v2 u z
  ·rw[z];exact hv
 ·refine⟨by simp[h.l1],h.l2,λu hu=>?_,h.v2⟩
  rcases XR hu with z|z
  ·exact h.v1 u z
  ·rw[z];exact hv
theorem getD_in{B:List Int}{p:Int}(h:∀v∈B,-1<=v/\v<p)(hp:-1<p)(i:Nat):-1<=B.getD i (-1)/\B.getD i (-1)<p:=by
 rw[Ej];cases e:B[i]? with
 |none=>simp;exact hp
 |some v=>simp;exact h v (XO e)
theorem get_map{B:List Int}{i:Nat}(h:i<B.length):(B.map MV.int)[i]? =some (.int (B.getD i (-1))):=by
 (refine AG (EU)<|AD (Ee h) ?_;rw[Ej];refine AD (Ee h) ?_);rfl
theorem Ae9{o:List Int}{le wi ch ah r0:Int}{SM GR:List Int}(p:Nat){pi:Int}(ep:pi=p)(S:DN V a o le wi ch ah RO SM GR)(T:Txt o)(O:Hq o p (SM,GR))(h1:p<o.length)(hr:-1<=r0/\r0<p)(c0:0<=ch)(c1:ch<=1001)
 (q:Q .none (Gq V a (Fm o p wi (o.length-p) ch.toNat (SM,GR) p false 0 p true 0 r0).1 (Fm o p wi (o.length-p) ch.toNat (SM,GR) p false 0 p true 0 r0).2)):Ag w h₀ 2 539 [.ref a.x,.int pi,.int r0] V Q:=by
 subst ep;obtain this:=T.len;obtain⟨t,hN⟩:=L7 w.params;apply Bg ["self","place","other"] ["limit","steps","low","low_is_greater","low_count","high","high_is_greater","high_count","count"] ["len","min","NOWHERE"] [] [] (by kernel_rfl) (by kernel_rfl);apply Be;intro mz Kz;refine AA<|Ax S.ii Iy rfl<|AA<|FL (EP this)<|AA ?_
 generalize hP:Fm o p wi (o.length-p) ch.toNat (SM,GR) p false 0 p true 0 r0=PP at q;let Dy:Nat->Hp->Lc->Prop:=λn AE m=>∃(S':List Int×List Int)(lo:Int)(lg:Bool)(lc:Nat)(hi:Int)(hg:Bool)(hc:Nat)(r:Int)(GH:Option MV)(st:Nat),AE=Gq V a S'.1 S'.2/\ch.toNat=st+n/\Hq o p S'/\(0<=lo/\lo<=p)/\(0<=hi/\hi<=p)/\lc<=o.length-p/\hc<=o.length-p/\(-1<=r/\r<p)/\PP=Fm o p wi (o.length-p) n S' lo lg lc hi hg hc r/\m=([("self",some (.ref a.x)),("place",some (.int p)),("other",some (.int r)),("limit",some (.int ((o.length:Int)-p))),("steps",some (.int st)),("low",some (.int lo)),("low_is_greater",some (.bool lg)),("low_count",some (.int lc)),("high",some (.int hi)),("high_is_greater",some (.bool hg)),("high_count",some (.int hc)),("count",GH)]:Lc);refine J8 Dy ch.toNat (X_ (SM,GR) p false 0 p true 0 r0 none 0 (OI ?_ qw O (Ah 0x1111200800810080217 rfl) (Ah 0x1111200800810080217 rfl) Wa Wa hr hP.symm rfl)) ?_
 ·unfold Gq;exact AD (set_same S.EE) AD (set_same S.EA) rfl
 intro n AE m Am;refine xk Am λS' lo lg lc hi hg hc r GH st As=>gN As λCX Bu O' Ca EY IE Iz Bo Bh C3=>?_;clear As Am;subst CX;subst C3
 obtain S1:=S.to O'.l1 O'.l2
 apply Be;intro mz Kz;refine AA<|Bw S1.ii (by decide) jj<|AA<|Ri S1.fin<|AA<|BW (λhn=>?_) (λhn=>?_)
 ·refine AA<|Ax S1.ii jW rfl<|AA<|BW (λhd=>?_) (λhd=>?_)
  ·refine AA<|Bw S1.ii (by decide) ji<|AA<|Ky<|AA<|Rh S1.fin T p r.toNat (min lc hc) (o.length-p) rfl (Wb Bo hn) qy (AM 0x1121121003100310004810800845001029 rfl h1) (AM 0x112100310001040030100029 rfl h1) (Bm 0x100015101000008100015100100600100040193010801301125179001029 rfl h1 Bo)<|AA ?_
   obtain UN:=Zh o p r.toNat (o.length-p-min lc hc) (min lc hc);obtain⟨n,rfl⟩:∃k,n=k+1:=⟨n-1,by exact dM Bu hd⟩;simp only[Rx]at Bh
   rw[if_pos hn]at Bh
   generalize BF o p r.toNat (o.length-p-min lc hc) (min lc hc)=c at Bh UN
   obtain g1:=getD_in O'.v1 FT _
   refine F6 (λhe=>?_) (λhe=>?_)
   ·rw[if_pos (by exact AQ 1552852551230430660240252353196825985569993525337 (by kernel_rfl) he)]at Bh;refine AA<|Bw S1.ii (by decide) Lf<|AA<|Ax S1.ii Qw rfl<|AA<|CR (Bi S1.EE) (MX Bo hn) (qz this Bo he) (get_map (by obtain this:=O'.l1;exact MY h1 Bo this))<|AA<|MQ S1 T (MZ Ca) (Ma h1 Ca)<|AD (MP S.sg) ?_
    obtain O2:=O'.GL (ow:=lo) (g:=lg) g1;generalize BV S' lo lg (S'.1.getD r.toNat (-1))=S2 at Bh O2
    obtain S3:=S.to O2.l1 O2.l2
    refine AA<|Bw S3.ii (by decide) Lf<|AA<|Ax S3.ii Qv rfl<|AA<|CR (Bi S3.EA) (MX Bo hn) (qz this Bo he) (get_map (by obtain this:=O2.l2;exact MY h1 Bo this))<|AA<|MQ S3 T (MZ EY) (Ma h1 EY)<|AD (MP S.sg) ?_
    rw[Bh]at q
    exact q
   ·rw[if_neg (by exact AQ 24634042794847335115321867402358797407806824226537611305 (by kernel_rfl) h1 he)]at Bh
    refine AA<|Ax S1.ii Iy rfl<|AA<|Hr (q6 Bo hn) (Zb 0x11211211211211211211211211211211000010000b11100010000b11211211211000010000b11000010100b11100010100b1000016100001611000010100b11001010100b100011000010100f100001611000010100b11100010100b11000010000b11100010000b11000010100b11001010100b11100010000b11000010000b10800801334030a4030a2010443000920801301125179201044009102029 rfl h1 Iz Bo UN) (EP this)<|AA<|Ax S1.ii Iy rfl<|AA<|Hr Nt (by omega) (EP this)<|AA<|AD (show(r+(c:Int)).toNat=r.toNat+c by exact dS Bo hn)<|AD (show((p:Int)+(c:Int)).toNat=p+c by exact Nq) ?_
    refine BW (λhb=>?_) (λhb=>?_)
    ·rw[if_pos hb]at Bh
     refine AA<|Bw S1.ii (by decide) Lf<|AA<|MQ S1 T (MZ Ca) (Ma h1 Ca)<|AD (MP S.sg) ?_
     obtain O2:=O'.GL (ow:=lo) (g:=lg) Bo
     generalize BV S' lo lg r=S2 at Bh O2
     obtain S3:=S.to O2.l1 O2.l2
     refine AA<|Ax S3.ii Qv rfl<|AA<|CR (Bi S3.EA) (MX Bo hn) (Pt h1 this Bo) (get_map (by obtain this:=O2.l2;exact MY h1 Bo this))<|⟨n,by exact Ie,(X_ S2 r true c hi hg hc _ _ (st+1) (OI rfl (Nu Bu) O2 (q7 Bo hn) (EY) (by omega) (Iz) (getD_in O2.v2 FT _) Bh rfl))⟩
    ·rw[if_neg hb]at Bh
     refine AA<|Bw S1.ii (by decide) Lf<|AA<|MQ S1 T (MZ EY) (Ma h1 EY)<|AD (MP S.sg) ?_
     obtain O2:=O'.GL (ow:=hi) (g:=hg) Bo
     generalize BV S' hi hg r=S2 at Bh O2
     obtain S3:=S.to O2.l1 O2.l2
     refine AA<|Ax S3.ii Qw rfl<|AA<|CR (Bi S3.EE) (MX Bo hn) (Pt h1 this Bo) (get_map (by obtain this:=O2.l1;exact MY h1 Bo this))<|⟨n,by exact Ie,(X_ S2 lo lg lc r false c _ _ (st+1) (OI rfl (Nu Bu) O2 (Ca) (q7 Bo hn) (IE) (by omega) (getD_in O2.v1 FT _) Bh rfl))⟩
  ·apply AA;obtain this:n=0:=by exact q8 Bu hd
   subst this;simp only[Rx]at Bh;refine Bw S1.ii (by decide) Lf<|AA<|MQ S1 T (MZ Ca) (Ma h1 Ca)<|AD (MP S.sg) ?_
   obtain O2:=O'.GL (ow:=lo) (g:=lg) (v:=-1) Pu;generalize BV S' lo lg (-1)=S2 at Bh O2
   obtain S3:=S.to O2.l1 O2.l2
   refine AA<|Bw S3.ii (by decide) Lf<|AA<|MQ S3 T (MZ EY) (Ma h1 EY)<|AD (MP S.sg) ?_
   rw[Bh]at q;exact q
 ·refine AA (De (AA ?_));have Bh:PP=BV (BV S' lo lg (-1)) hi hg (-1):=by
   cases n with
   |zero=>exact Bh
   |succ n=>simp only[Rx]at Bh;rw[if_neg hn]at Bh;exact Bh
  refine Bw S1.ii (by decide) Lf<|AA<|MQ S1 T (MZ Ca) (Ma h1 Ca)<|AD (MP S.sg) ?_
  obtain O2:=O'.GL (ow:=lo) (g:=lg) (v:=-1) Pu;generalize BV S' lo lg (-1)=S2 at Bh O2
  obtain S3:=S.to O2.l1 O2.l2
  refine AA<|Bw S3.ii (by decide) Lf<|AA<|MQ S3 T (MZ EY) (Ma h1 EY)<|AD (MP S.sg) ?_
  rw[Bh]at q;exact q
theorem DN.ro(S:DN V a o le wi ch ah RO SM GR)(h:T2.length<=1000):DN (V.set a.ro (.di T2)) a o le wi ch ah T2 SM GR:=by
 obtain e1:=neT S.inst S.roots rfl;obtain e2:=neT S.row.inst S.roots rfl;obtain e3:=neT S.row.before S.roots rfl;obtain e4:=neT S.EE S.roots rfl;obtain e5:=neT S.EA S.roots rfl;exact⟨by apply AG (AL e1);exact S.inst,⟨by apply AG (AL e2);exact S.row.inst,by apply AG (AL S.rl.symm);exact S.row.last,by apply AG (AL e3);exact S.row.before,S.row.len,S.row.small⟩,
  AS,by apply AG (AL e4);exact S.EE,by apply AG (AL e5);exact S.EA,S.ls,S.lg,h,S.xr,S.sg,S.sb,S.gb,S.rl⟩
noncomputable def MN(o:List Int)(wi:Int)(ch:Nat)(le:Int)(p:Nat)(st:List (Int×Int)×List Int×List Int):List (Int×Int)×List Int×List Int:=
 match BL o le p with
 |none=>st
 |some k=>(dput st.1 k p,Fm o p wi (o.length-p) ch st.2 p false 0 p true 0 ((Ak st.1 k).getD (-1)))
theorem Ad7{o:List Int}{le wi ch ah:Int}{SM GR:List Int}(p:Nat){pi:Int}(ep:pi=p)(S:DN V a o le wi ch ah RO SM GR)(T:Txt o)(O:Hq o p (SM,GR))(h1:p<o.length)
 (hr:∀k v,Ak RO k=some v->0<=v/\v<p) (hl:RO.length<=999) (s0:1<=le) (s1:le<=4) (c0:0<=ch) (c1:ch<=1001)
 (q:Q .none (Gq (V.set a.ro (.di (MN o wi ch.toNat le p (RO,SM,GR)).1)) a (MN o wi ch.toNat le p (RO,SM,GR)).2.1 (MN o wi ch.toNat le p (RO,SM,GR)).2.2)):Ag w h₀ 3 532 [.ref a.x,.int pi] V Q:=by
 subst ep;obtain this:=T.len;obtain⟨t,hN⟩:=L7 w.params;apply Bg ["self","place"] ["number","other"] ["NOWHERE"] [] [] (by kernel_rfl) (by kernel_rfl);apply Be;intro mz Kz;refine AA<|Ax S.ii jY rfl<|AA<|Bw (.inr (Aj a.r a.dr ⟨rfl,S.row.inst⟩)) (by decide) Ug<|AA<|Vl (.inr (Aj a.r a.dr ⟨rfl,S.row.inst⟩)) T ER (Wc h1) s0 s1 ?_
 unfold MN at q;cases hk:BL o le p with
 |none=>
  simp only[GP];refine AA (IT ?_);rw[hk]at q;simp only at q;rw[set_same S.roots]at q;unfold Gq at q;rw[set_same S.EE,set_same S.EA]at q;exact q
 |some k=>
  simp only[GP];refine AA<|De<|AA<|Ax S.ii YO rfl<|AA<|Kw (.inr ⟨a.ro,⟨rfl,S.roots⟩⟩)<|AA<|w_get (.inr ⟨a.ro,⟨rfl,S.roots⟩⟩)<|AA<|Ax S.ii YO rfl<|AA<|Ni S.roots (Ah 0x11218f6faf0f20003ef7f20009 rfl hl) ?_
  obtain S1:=S.ro (T2:=dput RO k p) (by obtain this:=G9 (l:=RO) (k:=k) (v:=(p:Int));exact AM 0x11133ef8f20001210300093ef7f21009 rfl hl this);refine AA<|Bw S1.ii (by decide) zT<|AA ?_
  have hd:-1<=(Ak RO k).getD (-1)/\(Ak RO k).getD (-1)<p:=by
   cases e:Ak RO k with
   |none=>simp;exact FT
   |some v=>obtain this:=hr k v e;simp;exact Ss this
  apply Ae9 p rfl S1 T O h1 hd c0 c1;rw[hk]at q;exact q
noncomputable def Eo(o:List Int)(p:Nat)(wi:Int)(lim:Nat)(SM GR:List Int):Nat->Nat->Nat->Nat->Int->List (Int×Int)
 |0,_,_,_,_=>[]
 |f+1,lo,lc,hc,r=>
  if(r≠-1/\(p:Int)-r<=wi)/\lo<lim then
   (if lo<BF o p r.toNat (lim-min lc hc) (min lc hc)then[((BF o p r.toNat (lim-min lc hc) (min lc hc):Int),(p:Int)-r)]else[])++
   (if BF o p r.toNat (lim-min lc hc) (min lc hc)<lim then
    (if o.getD (r.toNat+BF o p r.toNat (lim-min lc hc) (min lc hc)) 0<o.getD (p+BF o p r.toNat (lim-min lc hc) (min lc hc)) 0 then
     Eo o p wi lim SM GR f (max lo (BF o p r.toNat (lim-min lc hc) (min lc hc))) (BF o p r.toNat (lim-min lc hc) (min lc hc)) hc (GR.getD r.toNat (-1))
    else Eo o p wi lim SM GR f (max lo (BF o p r.toNat (lim-min lc hc) (min lc hc))) lc (BF o p r.toNat (lim-min lc hc) (min lc hc)) (SM.getD r.toNat (-1)))
   else Eo o p wi lim SM GR f (max lo (BF o p r.toNat (lim-min lc hc) (min lc hc))) lc hc r)
  else[]
theorem Hd:(∀(o:List Int)(p:Nat)(wi:Int)(lim:Nat)(SM GR:List Int)(x BE CK:Nat)(Cf:Int),Eo o p wi lim SM GR 0 x BE CK Cf=[])/\(∀(o:List Int)(p:Nat)(wi:Int)(lim:Nat)(SM GR:List Int)(x BE CK:Nat)(Cf:Int)(f:Nat),Eo o p wi lim SM GR (f+1) x BE CK Cf=if(Cf≠-1/\(↑p:Int)-Cf<=wi)/\x<lim then(if x<BF o p Cf.toNat (lim-DO BE CK) (DO BE CK)then[((↑(BF o p Cf.toNat (lim-DO BE CK) (DO BE CK)):Int),(↑p:Int)-Cf)]else[])++if BF o p Cf.toNat (lim-DO BE CK) (DO BE CK)<lim then if o.getD (Cf.toNat+BF o p Cf.toNat (lim-DO BE CK) (DO BE CK)) 0<o.getD (p+BF o p Cf.toNat (lim-DO BE CK) (DO BE CK)) 0 then Eo o p wi lim SM GR f (To x (BF o p Cf.toNat (lim-DO BE CK) (DO BE CK))) (BF o p Cf.toNat (lim-DO BE CK) (DO BE CK)) CK (GR.getD Cf.toNat (-1))else Eo o p wi lim SM GR f (To x (BF o p Cf.toNat (lim-DO BE CK) (DO BE CK))) BE (BF o p Cf.toNat (lim-DO BE CK) (DO BE CK)) (SM.getD Cf.toNat (-1))else Eo o p wi lim SM GR f (To x (BF o p Cf.toNat (lim-DO BE CK) (DO BE CK))) BE CK Cf else[]):=⟨by intros;rfl,by intros;rfl⟩
noncomputable def MM(o:List Int)(le wi:Int)(ch:Nat)(RO:List (Int×Int))(SM GR:List Int)(p:Nat)(lim:Nat):List (Int×Int):=
 match BL o le p with
 |none=>[]
 |some k=>Eo o p wi lim SM GR ch (le-1).toNat 0 0 ((Ak RO k).getD (-1))
theorem Ad8{o:List Int}{le wi ch ah mo:Int}{SM GR:List Int}(p lim:Nat){pi:Int}(ep:pi=p)(S:DN V a o le wi ch ah RO SM GR)(T:Txt o)(O:Hq o p (SM,GR))(h1:p<o.length)(ha:ah<=p)
 (el:min mo (o.length-pi)=lim) (hr:∀k v,Ak RO k=some v->0<=v/\v<p) (s0:1<=le) (s1:le<=4) (c0:0<=ch) (c1:ch<=1001)
 (q:Q (.lst ((MM o le wi ch.toNat RO SM GR p lim).map pv)) V):Ag w h₀ 2 546 [.ref a.x,.int pi,.int mo] V Q:=by
 subst ep;have:=T.len;obtain⟨t,hN⟩:=L7 w.params;refine Ag.cv<|Bg ["self","place","most"] ["number","found","limit","longest","steps","low_count","high_count","other","count"] ["NOWHERE","min"] [] [] (by kernel_rfl) (by kernel_rfl) ?_
 apply Be;intro mz Kz;refine AA<|Ax S.ii jV rfl<|AA<|BW (λh=>absurd h (Bp 0x11201008360080119 rfl ha)) (λZ=>?_)
 refine AA<|Ax S.ii jY rfl<|AA<|Bw (.inr (Aj a.r a.dr ⟨rfl,S.row.inst⟩)) (by decide) Ug<|AA<|Vl (.inr (Aj a.r a.dr ⟨rfl,S.row.inst⟩)) T ER (Wc h1) s0 s1 ?_
 unfold MM at q;cases hk:BL o le p with
 |none=>
  simp only[GP];refine AA (IT (AA ?_));apply CU;rw[hk]at q;exact .done q
 |some k=>
  rw[hk]at q;simp only at q;simp only[GP];refine AA (De (AA ?_));apply JI;intro f nf;have CI:=CZ nf;have S1:=S.grow (D6 (o:=.list []) CI);refine AA<|Bw S1.ii (by decide) zQ<|AA<|Z2 S1.fin T<|AD el<|AA<|Ax S1.ii jX rfl<|AA<|Ax S1.ii YO rfl<|AA<|Kw (.inr ⟨a.ro,⟨rfl,S1.roots⟩⟩)<|AA<|w_get (.inr ⟨a.ro,⟨rfl,S1.roots⟩⟩)<|AA ?_
  have hd:-1<=(Ak RO k).getD (-1)/\(Ak RO k).getD (-1)<p:=by
   cases e:Ak RO k with
   |none=>simp;exact FT
   |some v=>have:=hr k v e;simp;exact Ss this
  obtain e0:le-1=((le-1).toNat:Int):=by exact Aw 0x10131103100310031201498120145011219 rfl s0
  refine AD e0 ?_;generalize hP:Eo o p wi lim SM GR ch.toNat (le-1).toNat 0 0 ((Ak RO k).getD (-1))=PP at q;let Dy:Nat->Hp->Lc->Prop:=λn AE m=>∃(Az:List (Int×Int))(lo lc hc:Nat)(r:Int)(GH:Option MV)(st:Nat),AE=V.set f (.list (Az.map pv))/\ch.toNat=st+n/\Az.length<=st/\lc<=lim/\hc<=lim/\(-1<=r/\r<p)/\PP=Az++Eo o p wi lim SM GR n lo lc hc r/\m=([("self",some (.ref a.x)),("place",some (.int p)),("most",some (.int mo)),("number",some (.int k)),("found",some (.ref f)),("limit",some (.int lim)),("longest",some (.int lo)),("steps",some (.int st)),("low_count",some (.int lc)),("high_count",some (.int hc)),("other",some (.int r)),("count",GH)]:Lc);refine J8 Dy ch.toNat
   (Gi ([]) _ 0 0 _ none 0 (Ip rfl qw (by simp) Nv Nv hd (by apply AG (A0 hP);rfl) rfl)) ?_
  intro n AE m Am;refine LY Am λAz lo lc hc r GH st As=>QS As λCX Bu EB IE Iz Bo Bh C3=>?_;clear As Am;subst CX;subst C3;have S2:=S.grow (D6 (o:=.list (Az.map pv)) CI);apply Be;intro mz Kz;refine AA<|Bw S2.ii (by decide) jj<|AA<|Ri S2.fin<|AA<|BW (λhn=>?_) (λhn=>?_)
  ·refine AA<|Ax S2.ii jW rfl<|AA<|BW (λOf=>?_) (λOf=>?_)
   ·refine AA<|BW (λCa=>?_) (λCa=>?_)
    ·refine AA<|Bw S2.ii (by decide) ji<|AA<|Ky<|AA<|Rh S2.fin T p r.toNat (min lc hc) lim rfl (Wb Bo hn) qy rfl (dU el) (dW el Bo)<|AA ?_
     obtain UN:=Zh o p r.toNat (lim-min lc hc) (min lc hc);obtain⟨n,rfl⟩:∃k,n=k+1:=⟨n-1,by exact dM Bu Of⟩;simp only[Hd]at Bh;rw[if_pos ⟨hn,by exact Sl Ca⟩]at Bh;generalize BF o p r.toNat (lim-min lc hc) (min lc hc)=c at Bh UN;refine BW (λhg=>?_) (λhg=>?_)
     ·rw[if_pos (by exact AM 1234267781742987321 (by kernel_rfl) hg)]at Bh;have mx:max lo c=c:=by exact AM 0x11211210031003101000b410800839 rfl hg
      refine AA<|FN (Bi AS)<|AA<|FK AS (by simp;exact Cn 0x1100100009100110011918f6faf0f200012203103019491000093ef9f20119 rfl c1 EB Bu)<|AD set_set ?_
      have S3:=S.grow (D6 (o:=.list (Az.map pv++[.tup [.int c,.int ((p:Int)-r)]])) CI);refine AA<|BW (λEX=>?_) (λEX=>?_)
      ·rw[if_pos (by exact AM 1234267781742987321 (by kernel_rfl) EX)]at Bh;refine AA<|Ax S3.ii Iy rfl<|AA<|Hr (Cn 0x10110160080130210081083920801301125179 rfl Bo hg) (q9 el Bo EX) (EP this)<|AA<|Ax S3.ii Iy rfl<|AA<|Hr Nt (q_ el EX) (EP this)<|AA<|AD (show(r+(c:Int)).toNat=r.toNat+c by exact dS Bo hn)<|AD (show((p:Int)+(c:Int)).toNat=p+c by exact Nq) ?_
       refine BW (λhb=>?_) (λhb=>?_)
       ·rw[if_pos hb]at Bh;refine AA<|Ax S3.ii Qv rfl<|AA<|CR (Bi S3.EA) (MX Bo hn) (Pt h1 this Bo) (get_map (by have:GR.length=o.length:=O.l2;exact MY h1 Bo this))<|⟨n,⟨Ie,(Gi (Az++[((c:Int),(p:Int)-r)]) c c hc _ _ (st+1) (Ip (by simp) (Nu Bu) (by first|omega|(simp;exact EB)) (KC EX) (Iz) (getD_in O.v2 FT _) (by refine AG Bh<|AD mx ?_;first|done|simp) rfl))⟩⟩
       ·rw[if_neg hb]at Bh;refine AA<|Ax S3.ii Qw rfl<|AA<|CR (Bi S3.EE) (MX Bo hn) (Pt h1 this Bo) (get_map (by have:SM.length=o.length:=O.l1;exact MY h1 Bo this))<|⟨n,⟨Ie,(Gi (Az++[((c:Int),(p:Int)-r)]) c lc c _ _ (st+1) (Ip (by simp) (Nu Bu) (by first|omega|(simp;exact EB)) (IE) (KC EX) (getD_in O.v1 FT _) (by refine AG Bh<|AD mx ?_;first|done|simp) rfl))⟩⟩
      ·rw[if_neg (by exact AM 315972552472083333993 (by kernel_rfl) EX)]at Bh;exact⟨n,⟨Ie,(Gi (Az++[((c:Int),(p:Int)-r)]) c lc hc _ _ (st+1) (Ip (by simp) (Nu Bu) (by first|omega|(simp;exact EB)) (IE) (Iz) Bo (by refine AG Bh<|AD mx ?_;first|done|simp) rfl))⟩⟩
     ·rw[if_neg (by exact AM 315972552472083333993 (by kernel_rfl) hg)]at Bh;have mx:max lo c=lo:=by exact AM 0x1003100311031013001000b4108008369 rfl hg
      have S3:=S2;refine AA<|BW (λEX=>?_) (λEX=>?_)
      ·rw[if_pos (by exact AM 1234267781742987321 (by kernel_rfl) EX)]at Bh;refine AA<|Ax S3.ii Iy rfl<|AA<|Hr (q6 Bo hn) (q9 el Bo EX) (EP this)<|AA<|Ax S3.ii Iy rfl<|AA<|Hr Nt (q_ el EX) (EP this)<|AA<|AD (show(r+(c:Int)).toNat=r.toNat+c by exact dS Bo hn)<|AD (show((p:Int)+(c:Int)).toNat=p+c by exact Nq) ?_
       refine BW (λhb=>?_) (λhb=>?_)
       ·rw[if_pos hb]at Bh;refine AA<|Ax S3.ii Qv rfl<|AA<|CR (Bi S3.EA) (MX Bo hn) (Pt h1 this Bo) (get_map (by have:GR.length=o.length:=O.l2;exact MY h1 Bo this))<|⟨n,⟨Ie,(Gi Az lo c hc _ _ (st+1) (Ip rfl (Nu Bu) (by first|exact HP EB|(simp;omega)) (KC EX) (Iz) (getD_in O.v2 FT _) (by refine AG Bh<|AD mx ?_;first|done|simp) rfl))⟩⟩
       ·rw[if_neg hb]at Bh;refine AA<|Ax S3.ii Qw rfl<|AA<|CR (Bi S3.EE) (MX Bo hn) (Pt h1 this Bo) (get_map (by have:SM.length=o.length:=O.l1;exact MY h1 Bo this))<|⟨n,⟨Ie,(Gi Az lo lc c _ _ (st+1) (Ip rfl (Nu Bu) (by first|exact HP EB|(simp;omega)) (IE) (KC EX) (getD_in O.v1 FT _) (by refine AG Bh<|AD mx ?_;first|done|simp) rfl))⟩⟩
      ·rw[if_neg (by exact AM 315972552472083333993 (by kernel_rfl) EX)]at Bh;exact⟨n,⟨Ie,(Gi Az lo lc hc _ _ (st+1) (Ip rfl (Zb 0x10011511100000091001151001151010151110000009101015101015101200330194308208369402040b4930840839 rfl Ca mx EX) (by first|exact HP EB|(simp;omega)) (IE) (Iz) Bo (by refine AG Bh<|AD mx ?_;first|done|simp) rfl))⟩⟩
    ·skip;have Bh:PP=Az:=by
      cases n with
      |zero=>simpa[Hd]using Bh
      |succ n=>simp only[Hd]at Bh;rw[if_neg (λz=>Ca (by exact Jo 1552936173640180681492903286260519493545468716921 (by kernel_rfl) z)),HS]at Bh;exact Bh
     refine .list AS (.done ?_);refine AD (Gh nf)<|AD (A0 Bh) ?_;exact q
   ·refine AA (De ?_);have:n=0:=by exact q8 Bu Of
    subst this;have Bh:PP=Az:=by simpa[Hd]using Bh
    refine .list AS (.done ?_);refine AD (Gh nf)<|AD (A0 Bh) ?_;exact q
  ·apply Be;intro mz Kz;refine AA (De ?_);have Bh:PP=Az:=by
    cases n with
    |zero=>simpa[Hd]using Bh
    |succ n=>simp only[Hd]at Bh;rw[if_neg (λz=>hn z.1),HS]at Bh;exact Bh
   refine .list AS (.done ?_);refine AD (Gh nf)<|AD (A0 Bh) ?_;exact q
theorem aJ(hp:p<o.length):∀(f:Nat)(S:List Int×List Int)(lo:Int)(lg:Bool)(lc:Nat)(hi:Int)(hg:Bool)(hc:Nat)(r:Int),Hq o p S->-1<=r/\r<p->Hq o p (Fm o p wi (o.length-p) f S lo lg lc hi hg hc r)
 |0,S,lo,lg,lc,hi,hg,hc,r,h,hr=>by simp only[Rx];exact(h.GL Pu).GL Pu
 |f+1,S,lo,lg,lc,hi,hg,hc,r,h,hr=>by
  simp only[Rx];split
  ·split
   ·exact(h.GL (getD_in h.v1 FT _)).GL (getD_in (h.GL (getD_in h.v1 FT _)).v2 FT _)
   ·split
    ·exact aJ hp f _ _ _ _ _ _ _ _ (h.GL hr) (getD_in (h.GL hr).v2 FT _)
    ·exact aJ hp f _ _ _ _ _ _ _ _ (h.GL hr) (getD_in (h.GL hr).v1 FT _)
  ·exact(h.GL Pu).GL Pu
noncomputable def CG(o:List Int)(wi:Int)(ch:Nat)(le:Int):Nat->List (Int×Int)×List Int×List Int
 |0=>([],CD o.length (-1),CD o.length (-1))
 |k+1=>MN o wi ch le k (CG o wi ch le k)
theorem JG:(∀(o:List Int)(wi:Int)(ch:Nat)(le:Int),CG o wi ch le 0=([],CD o.length (-1),CD o.length (-1)))/\(∀(o:List Int)(wi:Int)(ch:Nat)(le:Int)(k:Nat),CG o wi ch le (k+1)=MN o wi ch le k (CG o wi ch le k)):=⟨by intros;rfl,by intros;rfl⟩
structure AZ3(o:List Int)(k:Nat)(st:List (Int×Int)×List Int×List Int):Prop where
 two:Hq o k st.2
 ro:∀j v,Ak st.1 j=some v->0<=v/\v<k
 len:st.1.length<=k
theorem Hq.mono(h:Hq o k S)(l:k<=k'):Hq o k' S:=⟨h.l1,h.l2,λv hv=>by obtain this:=h.v1 v hv;exact dQ l this,λv hv=>by obtain this:=h.v2 v hv;exact dQ l this⟩
theorem V2(o)(wi)(ch)(le):∀k,k<=o.length->AZ3 o k (CG o wi ch le k)
 |0,_=>⟨⟨by simp[JG],by simp[JG],λv h=>by simp[JG]at h;exact dP h.2,λv h=>by simp[JG]at h;exact dP h.2⟩,λj v h=>by simp[JG,Ha]at h,by simp[JG]⟩
 |k+1,hk=>by
  obtain ih:=V2 o wi ch le k (Sm hk)
  simp only[JG,MN]
  cases BL o le k with
  |none=>exact⟨ih.two.mono (Ah 73316446208 rfl),λj v h=>by obtain this:=ih.ro j v h;exact WZ this,by obtain this:=ih.len;simp only;exact HP this⟩
  |some key=>
   have hd:-1<=(Ak (CG o wi ch le k).1 key).getD (-1)/\(Ak (CG o wi ch le k).1 key).getD (-1)<k:=by
    cases e:Ak (CG o wi ch le k).1 key with
    |none=>simp;exact FT
    |some v=>obtain this:=ih.ro key v e;simp;exact Ss this
   refine⟨(aJ (Np hk) _ _ _ _ _ _ _ _ _ ih.two hd).mono (Ah 73316446208 rfl),λj v h=>?_,?_⟩
   ·simp only[Je]at h
    split at h
    ·(obtain zI:=Au h;subst zI);exact Ah 0x1111212003800830080217 rfl
    ·obtain this:=ih.ro j v h;exact WZ this
   ·obtain this:=G9 (l:=(CG o wi ch le k).1) (k:=key) (v:=(k:Int));obtain this:=ih.len;simp only;exact Sr (by assumption) this
noncomputable def Ho(o:List Int)(le wi ch:Int)(k:Nat)(mo:Int):List (Int×Int):=
 MM o le wi ch.toNat (CG o wi ch.toNat le k).1 (CG o wi ch.toNat le k).2.1 (CG o wi ch.toNat le k).2.2 k (min mo (o.length-k)).toNat
theorem DN.ahead(S:DN V a o le wi ch ah RO SM GR):DN (V.set a.x (.inst 549 a.d V1 (V3 o le wi ch gG a.r a.ro a.sm a.gr))) a o le wi ch gG RO SM GR:=by
 obtain e1:a.ro≠a.x:=λz=>by have:=S.roots;rw[z,S.inst]at this;cases this
 obtain e2:a.la≠a.x:=λz=>by have:=S.row.last;rw[z,S.inst]at this;cases this
 obtain e3:a.be≠a.x:=λz=>by have:=S.row.before;rw[z,S.inst]at this;cases this
 obtain e4:a.sm≠a.x:=λz=>by have:=S.EE;rw[z,S.inst]at this;cases this
 obtain e5:a.gr≠a.x:=λz=>by have:=S.EA;rw[z,S.inst]at this;cases this
 exact⟨AS,⟨by apply AG (AL S.xr.symm);exact S.row.inst,by apply AG (AL e2);exact S.row.last,by apply AG (AL e3);exact S.row.before,S.row.len,S.row.small⟩,
  by apply AG (AL e1);exact S.roots,by apply AG (AL e4);exact S.EE,by apply AG (AL e5);exact S.EA,S.ls,S.lg,S.lr,S.xr,S.sg,S.sb,S.gb,S.rl⟩
def Kv(t:OH)(a:AU):Prop:=a=t.x\/a=t.r\/a=t.la\/a=t.be\/a=t.ro\/a=t.sm\/a=t.gr
def JH(t:OH)(o:List Int)(le wi ch:Int)(V:Hp)(k:Nat):Prop:=DN V t o le wi ch k (CG o wi ch.toNat le k).1 (CG o wi ch.toNat le k).2.1 (CG o wi ch.toNat le k).2.2
theorem bL(T:Txt o)(s0:1<=le)(s1:le<=4)(c0:0<=ch)(c1:ch<=1001)(hN:o.length<=999):
 H0 6 w h₀ t.x 549 o.length le (Kv t) (JH t o le wi ch) (Ho o le wi ch):=by
 refine⟨λV k S=>(BK _ _ _ (BR S.inst (by decide) (by decide) rfl)),jX,zO,⟨_,⟨zU,(λV k mo Q S hk hm q=>?_)⟩⟩,λV k Q S hk q=>?_,λV AE k h S=>?_,λV k a S h=>?_⟩
 ·obtain ri:=V2 o wi ch.toNat le k (DH hk)
  exact Ag.up (Ad8 k _ rfl S T ri.two hk (FY _) (dR hk hm) ri.ro s0 s1 c0 c1 q) (by decide)
 ·obtain ri:=V2 o wi ch.toNat le k (DH hk);obtain aT:=V2 o wi ch.toNat le (k+1) (Wd hk);have S0:DN V t o le wi ch k (CG o wi ch.toNat le k).1 (CG o wi ch.toNat le k).2.1 (CG o wi ch.toNat le k).2.2:=S
  refine Ag.up (Z3 S0.inst S0.fin T jV z6 zS rfl (by decide) (by decide) (FY _) (MW hk) (n:=3) ?_) (by decide)
  obtain S':=S0.ahead (gG:=(k:Int)+1)
  refine Ad7 k rfl S' T ri.two hk ri.ro (by obtain this:=ri.len;exact AQ 0x111143ef7f20001000092010293ef7f22009 rfl hN hk this) s0 s1 c0 c1 (q _ ?_ λa ha=>?_)
  ·obtain S2:=S'.ro (T2:=(CG o wi ch.toNat le (k+1)).1) (by obtain this:=aT.len;exact dX hN hk this)
   obtain this:=S2.to aT.two.l1 aT.two.l2;unfold JH;exact this
  ·unfold Kv at ha;simp only[not_or]at ha;unfold Gq;rw[AL ha.2.2.2.2.2.2,AL ha.2.2.2.2.2.1,AL ha.2.2.2.2.1,AL ha.1]
 ·have S0:DN V t o le wi ch k (CG o wi ch.toNat le k).1 (CG o wi ch.toNat le k).2.1 (CG o wi ch.toNat le k).2.2:=S;unfold Kv at h;exact⟨by apply AG (h _ (by simp));exact S0.inst,⟨by apply AG (h _ (by simp));exact S0.row.inst,by apply AG (h _ (by simp));exact S0.row.last,by apply AG (h _ (by simp));exact S0.row.before,S0.row.len,S0.row.small⟩,
   by apply AG (h _ (by simp));exact S0.roots,by apply AG (h _ (by simp));exact S0.EE,by apply AG (h _ (by simp));exact S0.EA,S0.ls,S0.lg,S0.lr,S0.xr,S0.sg,S0.sb,S0.gb,S0.rl⟩
 ·have S0:DN V t o le wi ch k (CG o wi ch.toNat le k).1 (CG o wi ch.toNat le k).2.1 (CG o wi ch.toNat le k).2.2:=S;unfold Kv at h;rcases h with rfl|rfl|rfl|rfl|rfl|rfl|rfl
  ·refine AD S0.inst ?_;simp
  ·refine AD S0.row.inst ?_;simp
  ·refine AD S0.row.last ?_;simp
  ·refine AD S0.row.before ?_;simp
  ·refine AD S0.roots ?_;simp
  ·refine AD S0.EE ?_;simp
  ·refine AD S0.EA ?_;simp
theorem AA0:Gs 582 "ahead":=gs rfl
theorem AA1:Gs 582 "rows":=gs rfl
theorem AA2:Gs 582 "tree":=gs rfl
theorem YQ:Ga 582 "octets":=ga rfl
theorem jZ:Ga 582 "least":=ga rfl
theorem ye:Ga 582 "window":=ga rfl
theorem yd:Ga 582 "ahead":=ga rfl
theorem ja:Ga 582 "rows":=ga rfl
theorem jc:Ga 582 "tree":=ga rfl
theorem zV:Gm 582 "put" 392:=gm rfl
theorem zX:Gm 582 "enter" 572:=gm rfl
theorem zW:Gm 582 "limit" 413:=gm rfl
theorem jk:Gm 582 "alike" 427:=gm rfl
theorem jl:Gm 582 "is_near" 434:=gm rfl
theorem zY:Gm 582 "every" 579:=gm rfl
theorem yt:Gc 582 565:=gc rfl
structure KW where
 r:AU
 dr:AU
 la:AU
 be:AU
structure QI where
 x:AU
 d:AU
 a:KW
 b:KW
 t:OH
noncomputable abbrev Rd:List AV:=["octets","least","window","chain","ahead","rows","tree"]
noncomputable abbrev Rg(o:List Int)(wi ch ah:Int)(y:QI):List MV:=[.bytes o,.int 2,.int wi,.int ch,.int ah,.lst [.ref y.a.r,.ref y.b.r],.ref y.t.x]
noncomputable def CN(a:KW):List AU:=[a.r,a.la,a.be]
noncomputable def Eh(t:OH):List AU:=[t.x,t.r,t.la,t.be,t.ro,t.sm,t.gr]
structure F4(V:Hp)(y:QI)(o:List Int)(wi ch ah:Int)(La:List (Int×Int))(Ba:List Int)(Lb:List (Int×Int))(Bb:List Int)(k:Nat):Prop where
 inst:V y.x=some (.inst 582 y.d Rd (Rg o wi ch ah y))
 a:DL V y.a.r y.a.dr y.a.la y.a.be o 2 La Ba
 b:DL V y.b.r y.b.dr y.b.la y.b.be o 3 Lb Bb
 t:JH y.t o 4 wi ch V k
 nd:(y.x::CN y.a++CN y.b++Eh y.t).Nodup
theorem F4.ii(S:F4 V y o wi ch ah La Ba Lb Bb k):EI V (.ref y.x) 582 Rd (Rg o wi ch ah y):=.inr (Aj y.x y.d ⟨rfl,S.inst⟩)
theorem F4.fin(S:F4 V y o wi ch ah La Ba Lb Bb k):Fin P V (.ref y.x) 582 Rd (Rg o wi ch ah y) o wi:=⟨S.ii,YQ,ye,rfl,rfl⟩
theorem DL.frame(h:∀a,a=r\/a=la\/a=be->AE a=V a)(S:DL V r dr la be o sz L B):DL AE r dr la be o sz L B:=
 ⟨by apply AG (h _ (.inl rfl));exact S.inst,by apply AG (h _ (.inr (.inl rfl)));exact S.last,by apply AG (h _ (.inr (.inr rfl)));exact S.before,S.len,S.small⟩
theorem JH.frame(h:∀a,Kv t a->AE a=V a)(S:JH t o le wi ch V k):JH t o le wi ch AE k:=by
 have S0:DN V t o le wi ch k (CG o wi ch.toNat le k).1 (CG o wi ch.toNat le k).2.1 (CG o wi ch.toNat le k).2.2:=S;unfold Kv at h;exact⟨by apply AG (h _ (by simp));exact S0.inst,⟨by apply AG (h _ (by simp));exact S0.row.inst,by apply AG (h _ (by simp));exact S0.row.last,by apply AG (h _ (by simp));exact S0.row.before,S0.row.len,S0.row.small⟩,
  by apply AG (h _ (by simp));exact S0.roots,by apply AG (h _ (by simp));exact S0.EE,by apply AG (h _ (by simp));exact S0.EA,S0.ls,S0.lg,S0.lr,S0.xr,S0.sg,S0.sb,S0.gb,S0.rl⟩
theorem F4.grow(s:DE V AE)(S:F4 V y o wi ch ah La Ba Lb Bb k):F4 AE y o wi ch ah La Ba Lb Bb k:=
 ⟨s _ _ S.inst,S.a.grow s,S.b.grow s,DN.grow s S.t,S.nd⟩
theorem DL.nodup(S:DL V a.r a.dr a.la a.be o sz L B):(CN a).Nodup:=by
 obtain e1:=neT S.inst S.last rfl
 obtain e2:=neT S.inst S.before rfl
 obtain e3:=neT S.last S.before rfl
 simp[CN,e1,e2,e3]
theorem DN.nodup(S:DN V a o le wi ch ah RO SM GR):(Eh a).Nodup:=by
 obtain x1:=neT S.inst S.row.last rfl;obtain x2:=neT S.inst S.row.before rfl;obtain x3:=neT S.inst S.roots rfl;obtain x4:=neT S.inst S.EE rfl;obtain x5:=neT S.inst S.EA rfl;obtain r1:=neT S.row.inst S.row.last rfl;obtain r2:=neT S.row.inst S.row.before rfl;obtain r3:=neT S.row.inst S.roots rfl;obtain r4:=neT S.row.inst S.EE rfl;obtain r5:=neT S.row.inst S.EA rfl;obtain l1:=neT S.row.last S.row.before rfl;obtain l2:=neT S.row.last S.EE rfl;obtain l3:=neT S.row.last S.EA rfl;obtain b1:=neT S.row.before S.roots rfl;obtain o1:=neT S.roots S.EE rfl;obtain o2:=neT S.roots S.EA rfl;simp[Eh,S.xr,x1,x2,x3,x4,x5,r1,r2,r3,r4,r5,l1,S.rl.symm,l2,l3,b1,S.sb.symm,S.gb.symm,o1,o2,S.sg]
theorem AH8(hx:V x=some (.inst 582 d [] []))(T:Txt o)(h2:1<=wi)(h3:1<=ch)
 (q:∀y AE,y.x=x->F4 AE y o wi ch 0 [] (CD o.length (-1)) [] (CD o.length (-1)) 0->(∀b,b∈CN y.a++CN y.b++Eh y.t->V b=none)->(∀b,b≠x->V b≠none->AE b=V b)->Q .none AE):
 Ag w h₀ 5 565 [.ref x,.bytes o,.int wi,.int ch] V Q:=by
 refine Bg ["self","octets","window","chain"] [] ["Matcher","TreeFinder"] ["self"] [] (by kernel_rfl) (by kernel_rfl)<|AA<|qC (.inr (Aj x d ⟨rfl,hx⟩)) (by decide)<|AA<|J4 (j:=0) rfl (by decide) (by decide) rfl<|AA ?_
 apply Z1 (by intro n hn;simp only[CH,Fe,or_false]at hn;rcases hn with rfl|rfl|rfl|rfl|rfl<;>exact λZ=>⟨rfl,rfl,rfl,rfl⟩) hx (by decide) h2 h3
 have D5:(V.set x (.inst 582 d Jq [.bytes o,.int 2,.int wi,.int ch,.int 0])) x=some (.inst 582 d Jq [.bytes o,.int 2,.int wi,.int ch,.int 0]):=AS
 generalize lO:V.set x (.inst 582 d Jq [.bytes o,.int 2,.int wi,.int ch,.int 0])=CC at D5
 refine AA<|qC (.inr (Aj x d ⟨rfl,D5⟩)) (by decide)<|AA<|bT (λAN l AE=>DE CC AE/\((AN=[.int 2,.int 3]/\l=[])\/(AN=[.int 3]/\∃a:KW,l=[.ref a.r]/\DL AE a.r a.dr a.la a.be o 2 [] (CD o.length (-1))/\(∀b∈CN a,CC b=none))\/
  (AN=[]/\∃a b:KW,l=[.ref a.r,.ref b.r]/\DL AE a.r a.dr a.la a.be o 2 [] (CD o.length (-1))/\DL AE b.r b.dr b.la b.be o 3 [] (CD o.length (-1))/\(∀c∈CN a,CC c=none)/\(∀c∈CN b,CC c=none)/\(∀c∈CN a,∀c'∈CN b,c≠c')))) (.tup _ _) (λZ Z Z Z Z=>trivial) (λZ Z Z=>trivial) ⟨λZ Z e=>e,.inl ⟨rfl,rfl⟩⟩ rfl ?_ ?_
 ·intro mv AN l AE f hI
  obtain⟨hs,hI⟩:=hI
  refine AA<|Ax (.inr (Aj x d ⟨rfl,(hs _ _ D5)⟩)) YQ rfl<|AA ?_
  rcases hI with⟨e1,rfl⟩|⟨e1,a,rfl,Sa,na⟩|⟨e1,_⟩
  ·simp only[Dj]at e1
   obtain⟨rfl,rfl⟩:=e1
   refine Vk T (by decide) λr dr la be Bf IF S n1 n2 n3=>(AO (by simp) (pF hs IF) (.inr (.inl ⟨rfl,⟨⟨r,dr,la,be⟩,(AO rfl S (λb hb=>?_))⟩⟩)))
   simp only[CN,CH,Fe,or_false]at hb
   rcases hb with rfl|rfl|rfl
   ·exact NZ hs n1
   ·exact NZ hs n2
   ·exact NZ hs n3
  ·simp only[Dj]at e1
   obtain⟨rfl,rfl⟩:=e1
   refine Vk T (by decide) λr dr la be Bf IF S n1 n2 n3=>?_
   have nn:∀c∈CN (⟨r,dr,la,be⟩:KW),AE c=none:=λc hc=>by
    simp only[CN,CH,Fe,or_false]at hc
    rcases hc with rfl|rfl|rfl
    ·exact n1
    ·exact n2
    ·exact n3
   refine(AO (by simp) (pF hs IF) (.inr (.inr ⟨rfl,(Aj a ⟨r,dr,la,be⟩ (Cc rfl (Sa.grow IF) S na (λc hc=>NZ hs (nn c hc)) (λc hc c' C7 z=>?_)))⟩)))
   subst z
   have z:=nn c C7;simp only[CN,CH,Fe,or_false]at hc
   rcases hc with rfl|rfl|rfl
   ·rw[Sa.inst]at z;exact sN z
   ·rw[Sa.last]at z;exact sN z
   ·rw[Sa.before]at z;exact sN z
  ·exact cN e1
 ·intro l Bf Dh ls nls
  obtain⟨hs,hI⟩:=Dh
  rcases hI with⟨e1,_⟩|⟨e1,_⟩|⟨_,a,b,rfl,Sa,Sb,na,nb,nab⟩
  ·exact nC e1
  ·exact nC e1
  refine .E6 nls ?_
  obtain EC:=hs _ _ D5
  refine AA<|Df EC AA1 (by decide)<|AA<|Ax (.inr (Aj x d ⟨rfl,AS⟩)) YQ rfl<|AA<|Ai0 (.inr (Aj x d ⟨rfl,AS⟩)) (by decide)<|AA<|pw T (by decide) h2 h3 λt DC Y6 St nt=>AA ?_
  obtain hx3:=Y6 _ _ AS
  apply Df hx3 AA2 (by decide)
  have nx:∀c,CC c=none->c≠x:=λc h z=>by rw[z,D5]at h;exact sN h
  have nO:∀c∈Eh t,(Bf.set x (.inst 582 d (DY Jq "rows") (Ds Jq [.bytes o,.int 2,.int wi,.int ch,.int 0] "rows" (.lst [.ref a.r,.ref b.r])))) c=none:=λc hc=>by
   simp only[Eh,CH,Fe,or_false]at hc
   exact nt c hc
  have tx:∀c∈Eh t,c≠x:=λc hc z=>by have:=nO c hc;rw[z,AS]at this;exact sN this
  have t2:∀c∈Eh t,Bf c=none:=λc hc=>by have:=nO c hc;rwa[AL (tx c hc)]at this
  have live:∀(r:KW)(sz:Int),DL Bf r.r r.dr r.la r.be o sz [] (CD o.length (-1))->∀c∈CN r,Bf c≠none:=λr sz S c hc=>by
   simp only[CN,CH,Fe,or_false]at hc
   rcases hc with rfl|rfl|rfl
   ·rw[S.inst];simp
   ·rw[S.last];simp
   ·rw[S.before];simp
  have fr:∀(r:KW)(sz:Int),DL Bf r.r r.dr r.la r.be o sz [] (CD o.length (-1))->(∀c∈CN r,CC c=none)->DL (DC.set x (.inst 582 d (DY (DY Jq "rows") "tree") (Ds (DY Jq "rows") (Ds Jq [.bytes o,.int 2,.int wi,.int ch,.int 0] "rows" (.lst [.ref a.r,.ref b.r])) "tree" (.ref t.x)))) r.r r.dr r.la r.be o sz [] (CD o.length (-1)):=λr sz S n=>by
   refine DL.frame (λc hc=>?_) (V:=Bf) S
   have C7:c∈CN r:=by simpa[CN]using hc
   have cx:=nx c (n c C7)
   rw[AL cx]
   cases e:Bf c with
   |none=>exact absurd e (live r sz S c C7)
   |some o'=>exact Y6 c o' (by rw[AL cx];exact e)
  refine q ⟨x,d,a,b,t⟩ _ rfl ⟨AS,fr a 2 Sa na,fr b 3 Sb nb,?_,?_⟩ ?_ ?_
  ·refine JH.frame (V:=DC) (λc hc=>AL (tx c ?_)) St;unfold Kv at hc;simpa[Eh]using hc
  ·show(x::CN a++CN b++Eh t).Nodup;obtain nda:=DL.nodup (a:=a) Sa;obtain ndb:=DL.nodup (a:=b) Sb;obtain ndt:=DN.nodup St;obtain at_:=λc hc C7=>live a 2 Sa c hc (t2 c C7);obtain bt:=λc hc C7=>live b 3 Sb c hc (t2 c C7);rw[GD,GD,LJ];refine⟨λhm=>?_,?_⟩
   ·rcases DX.mp hm with hm|hm
    ·rcases DX.mp hm with hm|hm
     ·exact nx x (na x hm) rfl
     ·exact nx x (nb x hm) rfl
    ·exact tx x hm rfl
   ·rw[XS,XS];refine(AO (AO nda ndb nab) ndt (λc hc c' C7 z=>?_));subst z;rcases DX.mp hc with hc|hc
    ·exact at_ c hc C7
    ·exact bt c hc C7
  ·intro c hc;have h1:CC c=none:=by
    rcases DX.mp hc with hc|hc
    ·rcases DX.mp hc with hc|hc
     ·exact na c hc
     ·exact nb c hc
    ·exact NZ hs (t2 c hc)
   have:=nx c h1;rwa[<-lO,AL this]at h1
  ·intro c hc hn;rw[AL hc];cases e:V c with
   |none=>exact absurd e hn
   |some o'=>
    have e1:CC c=some o':=by rw[<-lO,AL hc];exact e
    exact Y6 c o' (by rw[AL hc];exact hs c o' e1)
theorem AH3(T:Txt o)(h2:1<=wi)(h3:1<=ch)
 (q:∀y AE,DE V AE->F4 AE y o wi ch 0 [] (CD o.length (-1)) [] (CD o.length (-1)) 0->(∀b,b∈y.x::CN y.a++CN y.b++Eh y.t->V b=none)->Q (.ref y.x) AE):
 Ag w h₀ 6 582 [.bytes o,.int wi,.int ch] V Q:=by
 refine Jg (yt _) λx d nx nd ne=>AH8 AS T h2 h3 λy AE hy S n k=>⟨rfl,?_⟩;(try clear ne;subst hy);refine q y AE ?_ S ?_
 ·intro b o' e;obtain this:=neN e (CZ nx);exact AG (k b this (by rw[AL this,e];simp))<|AG (AL this) e
 ·intro b hb;rw[GD,GD,CH]at hb;rcases hb with rfl|hb
  ·exact CZ nx
  ·obtain z:=n b hb;obtain this:b≠y.x:=λy'=>by rw[y',AS]at z;exact sN z
   rwa[AL this]at z
noncomputable def PM(V:Hp)(a:KW)(L:List (Int×Int))(B:List Int):Hp:=(V.set a.be (.list (B.map .int))).set a.la (.di L)
theorem DL.to(S:DL V a.r a.dr a.la a.be o sz L B)(h1:B'.length=o.length)(h2:L'.length<=1000):DL (PM V a L' B') a.r a.dr a.la a.be o sz L' B':=by
 obtain e1:=neT S.inst S.last rfl;obtain e2:=neT S.inst S.before rfl;obtain e3:=neT S.last S.before rfl;unfold PM;exact⟨by refine AG (AL e1)<|AG (AL e2) ?_;exact S.inst,AS,by exact AG (AL e3.symm) AS,h1,h2⟩
theorem MJ(h:b∉CN a):PM V a L B b=V b:=by
 simp only[CN,CH,Fe,or_false,not_or]at h;unfold PM;rw[AL h.2.1,AL h.2.2]
theorem L5(h:c=a.r\/c=a.la\/c=a.be):c∈CN a:=by simpa[CN]using h
theorem L6(h:Kv t c):c∈Eh t:=by unfold Kv at h;simpa[Eh]using h
structure Rf(y:QI):Prop where
 xa:y.x∉CN y.a
 xb:y.x∉CN y.b
 xt:y.x∉Eh y.t
 ab:∀c∈CN y.a,c∉CN y.b
 at_:∀c∈CN y.a,c∉Eh y.t
 bt:∀c∈CN y.b,c∉Eh y.t
theorem Rf.of(h:(y.x::CN y.a++CN y.b++Eh y.t).Nodup):Rf y:=by
 rw[GD,GD,LJ,XS,XS]at h
 simp only[DX,not_or]at h
 (refine G5 h λzN1 Nl Z h5=>?_;try clear h;obtain⟨⟨h1,h2⟩,h3⟩:=zN1;obtain⟨_,_,h4⟩:=Nl)
 exact⟨h1,h2,h3,λc hc C7=>h4 c hc c C7 rfl,λc hc C7=>h5 c (.inl hc) c C7 rfl,λc hc C7=>h5 c (.inr hc) c C7 rfl⟩
def mS(y:QI)(o:List Int)(wi ch:Int)(V:Hp)(k:Nat):Prop:=F4 V y o wi ch k (A_ o 2 k).1 (A_ o 2 k).2 (A_ o 3 k).1 (A_ o 3 k).2 k
theorem AH5{o:List Int}{wi ch ah:Int}(k:Nat){pi:Int}(ep:pi=k)(S:F4 V y o wi ch ah (A_ o 2 k).1 (A_ o 2 k).2 (A_ o 3 k).1 (A_ o 3 k).2 k)(T:Txt o)(hN:o.length<=999)(h1:k<o.length)(c0:0<=ch)(c1:ch<=1001)
 (q:∀AE,F4 AE y o wi ch ah (A_ o 2 (k+1)).1 (A_ o 2 (k+1)).2 (A_ o 3 (k+1)).1 (A_ o 3 (k+1)).2 (k+1)->(∀b,b∉y.x::CN y.a++CN y.b++Eh y.t->AE b=V b)->Q .none AE):Ag w h₀ 7 572 [.ref y.x,.int pi] V Q:=by
 subst ep
 obtain N:=Rf.of S.nd
 obtain ia:=MI o 2 (k+1)
 obtain ib:=MI o 3 (k+1)
 obtain F:=bL (w:=w) (h₀:=h₀) (t:=y.t) (o:=o) (le:=4) (wi:=wi) (ch:=ch) T (by decide) (by decide) c0 c1 hN
 generalize Ov:PM V y.a (A_ o 2 (k+1)).1 (A_ o 2 (k+1)).2=Wy
 generalize Dt:PM Wy y.b (A_ o 3 (k+1)).1 (A_ o 3 (k+1)).2=S_
 obtain Sa:DL Wy y.a.r y.a.dr y.a.la y.a.be o 2 (A_ o 2 (k+1)).1 (A_ o 2 (k+1)).2:=by refine AD (A0 Ov) ?_;exact S.a.to ia.bl (by obtain this:=ia.ll;exact dX hN h1 this)
 obtain Xc:DL Wy y.b.r y.b.dr y.b.la y.b.be o 3 (A_ o 3 k).1 (A_ o 3 k).2:=S.b.frame λc hc=>by refine AD (A0 Ov) ?_;exact MJ λz=>N.ab c z (L5 hc)
 obtain Sb:DL S_ y.b.r y.b.dr y.b.la y.b.be o 3 (A_ o 3 (k+1)).1 (A_ o 3 (k+1)).2:=by refine AD (A0 Dt) ?_;exact Xc.to ib.bl (by obtain this:=ib.ll;exact dX hN h1 this)
 obtain uh:DL S_ y.a.r y.a.dr y.a.la y.a.be o 2 (A_ o 2 (k+1)).1 (A_ o 2 (k+1)).2:=Sa.frame λc hc=>by refine AD (A0 Dt) ?_;exact MJ (N.ab c (L5 hc))
 obtain St:JH y.t o 4 wi ch S_ k:=JH.frame (λc hc=>by exact AD (A0 Dt)<|AD (MJ λz=>N.bt c z (L6 hc))<|AD (A0 Ov) AG (MJ λz=>N.at_ c z (L6 hc)) rfl) S.t
 obtain Sx:S_ y.x=some (.inst 582 y.d Rd (Rg o wi ch ah y)):=by refine AD (A0 Dt)<|AG (MJ N.xb)<|AD (A0 Ov)<|AG (MJ N.xa) ?_;exact S.inst
 refine Bg ["self","place"] ["row"] [] [] [] (by kernel_rfl) (by kernel_rfl)<|AA<|Ax S.ii ja rfl<|AA ?_
 let Dy:List MV->Hp->Lc->Prop:=λAN AE m=>∃oc:Option MV,m=([("self",some (.ref y.x)),("place",some (.int k)),("row",oc)]:Lc)/\((AN=[.ref y.a.r,.ref y.b.r]/\AE=V)\/(AN=[.ref y.b.r]/\AE=Wy)\/(AN=[]/\AE=S_))
 refine EO Dy (.lst _ _) (λZ Z Z Z Z=>trivial) (λZ Z Z=>trivial) (⟨none,(HW rfl (.inl ⟨rfl,rfl⟩))⟩) ?_ ?_
 ·intro mv AN AE m Am;refine AI Am λoc As=>?_;obtain CX:=As.1;obtain hI:=As.2;clear As Am;subst CX;apply AA;rcases hI with⟨e1,rfl⟩|⟨e1,rfl⟩|⟨e1,_⟩
  ·simp only[Dj]at e1;obtain⟨rfl,rfl⟩:=e1;refine Bw (.inr (Aj y.a.r y.a.dr ⟨rfl,S.a.inst⟩)) (by decide) YX<|AA<|w_up (j:=2) rfl (aV S.a T ER (MW h1) (by decide) (by decide) ?_)
   exact⟨_,(HW rfl (.inr (.inl ⟨rfl,Ov⟩)))⟩
  ·simp only[Dj]at e1
   obtain⟨rfl,rfl⟩:=e1
   refine Bw (.inr (Aj y.b.r y.b.dr ⟨rfl,Xc.inst⟩)) (by decide) YX<|AA<|w_up (j:=2) rfl (aV Xc T ER (MW h1) (by decide) (by decide) ?_)
   exact⟨_,(HW rfl (.inr (.inr ⟨rfl,Dt⟩)))⟩
  ·exact cN e1
 ·intro AE m Am
  refine AI Am λoc As=>?_
  obtain CX:=As.1;obtain hI:=As.2
  clear As Am
  subst CX
  rcases hI with⟨e1,_⟩|⟨e1,_⟩|⟨_,rfl⟩
  ·exact nC e1
  ·exact nC e1
  refine AA<|Ax (.inr (Aj y.x y.d ⟨rfl,Sx⟩)) jc rfl ?_
  (refine A1 (F.inst AE k St) λdt kt vt AX=>?_;obtain i1:=AX.1;obtain i2:=AX.2.1;clear AX)
  refine AA<|Bw (.inr (Aj y.t.x dt ⟨rfl,i1⟩)) i2 F.put<|AA<|F.X2 AE k _ St h1 λBf Xd fr=>?_
  refine q Bf ⟨by refine AD (fr _ λz=>N.xt (L6 z)) ?_;exact Sx,uh.frame λc hc=>fr c λz=>N.at_ c (L5 hc) (L6 z),Sb.frame λc hc=>fr c λz=>N.bt c (L5 hc) (L6 z),Xd,S.nd⟩ λb hb=>?_
  simp only[DX,CH,not_or,GD]at hb;exact AD (fr b λz=>hb.2.2 (L6 z))<|AD (A0 Dt)<|AG (MJ hb.2.1.2)<|AD (A0 Ov) MJ hb.2.1.1
noncomputable def Et(o:List Int)(k:Nat)(wi:Int)(lim:Nat)(st:List (Int×Int)×Int)(r:Int):List (Int×Int)×Int:=
 if r≠-1/\(k:Int)-r<=wi then(if st.2<(BF o k r.toNat lim 0:Int)then(st.1++[((BF o k r.toNat lim 0:Int),(k:Int)-r)],(BF o k r.toNat lim 0:Int))else st)else st
noncomputable def FJ(st:List (Int×Int)×Int)(x:Int×Int):List (Int×Int)×Int:=if st.2<x.1 then(st.1++[x],x.1)else st
noncomputable def Ko(o:List Int)(wi ch:Int)(k:Nat)(mo:Int):List (Int×Int):=
 ((Ho o 4 wi ch k mo).foldl FJ (Et o k wi (min mo (o.length-k)).toNat (Et o k wi (min mo (o.length-k)).toNat ([],1) (C_ (A_ o 2 k).1 (BL o 2 k))) (C_ (A_ o 3 k).1 (BL o 3 k)))).1
theorem UQ(o)(p)(wi)(lim)(SM GR):∀(f lo lc hc:Nat)(r:Int),(Eo o p wi lim SM GR f lo lc hc r).length<=f
 |0,_,_,_,_=>by simp[Hd]
 |f+1,lo,lc,hc,r=>by
  simp only[Hd];split
  ·refine AD Tc ?_;obtain h1:∀(c:Prop)[Decidable c](x:Int×Int),(if c then[x]else[]).length<=1:=λc Z x=>by split<;>simp
   obtain a:=h1 (lo<BF o p r.toNat (lim-min lc hc) (min lc hc)) ((BF o p r.toNat (lim-min lc hc) (min lc hc):Int),(p:Int)-r);obtain b:∀x:List (Int×Int),x.length<=f->(if lo<BF o p r.toNat (lim-min lc hc) (min lc hc)then[((BF o p r.toNat (lim-min lc hc) (min lc hc):Int),(p:Int)-r)]else[]).length+x.length<=f+1:=λx hx=>by exact AQ 0x111312203100030201009120009 rfl a hx
   apply b _;split
   ·split
    ·exact UQ o p wi lim SM GR f _ _ _ _
    ·exact UQ o p wi lim SM GR f _ _ _ _
   ·exact UQ o p wi lim SM GR f _ _ _ _
  ·simp
theorem AZ2(c1:ch<=1001):(Ho o le wi ch k mo).length<=1001:=by
 unfold Ho MM;cases BL o le k with
 |none=>simp
 |some key=>obtain this:=UQ o k wi (min mo (o.length-k)).toNat (CG o wi ch.toNat le k).2.1 (CG o wi ch.toNat le k).2.2 ch.toNat (le-1).toNat 0 0 ((Ak (CG o wi ch.toNat le k).1 key).getD (-1));simp only;exact Bp 0x11004110143ef9f200001900093ef9f20119 rfl c1 this
theorem oP:-1<=C_ (A_ o sz k).1 key/\C_ (A_ o sz k).1 key<k:=by
 unfold C_;cases key with
 |none=>simp;exact FT
 |some j=>
  cases e:Ak (A_ o sz k).1 j with
  |none=>simp[e];exact FT
  |some v=>obtain this:=(MI o sz k).l j v e;simp[e];exact Ss this
theorem Zz{lim st r}:(Et o k wi lim st r).1.length<=st.1.length+1:=by
 unfold Et;split
 ·split<;>simp
 ·simp
theorem AH6{Q y}{o:List Int}{wi ch ah mo:Int}(k:Nat){pi:Int}(ep:pi=k)(S:F4 V y o wi ch ah (A_ o 2 k).1 (A_ o 2 k).2 (A_ o 3 k).1 (A_ o 3 k).2 k)(T:Txt o)(hN:o.length<=999)(h1:k<o.length)(hm:1<=mo)(c0:0<=ch)(c1:ch<=1001)
 (q:Q (.lst ((Ko o wi ch k mo).map pv)) V):Ag w h₀ 7 579 [.ref y.x,.int pi,.int mo] V Q:=by
 subst ep;obtain N:=Rf.of S.nd;obtain F:=bL (w:=w) (h₀:=h₀) (t:=y.t) (o:=o) (le:=4) (wi:=wi) (ch:=ch) T (by decide) (by decide) c0 c1 hN;obtain el:min mo ((o.length:Int)-k)=((min mo ((o.length:Int)-k)).toNat:Int):=by exact dR h1 hm
 obtain Ll:=oP (o:=o) (sz:=2) (k:=k) (key:=BL o 2 k);obtain Lm:=oP (o:=o) (sz:=3) (k:=k) (key:=BL o 3 k);obtain tl:=AZ2 (o:=o) (le:=4) (wi:=wi) (k:=k) (mo:=mo) c1;unfold Ko at q;generalize HC:(min mo ((o.length:Int)-k)).toNat=lim at q el;generalize k7:C_ (A_ o 2 k).1 (BL o 2 k)=ra at q Ll;generalize k8:C_ (A_ o 3 k).1 (BL o 3 k)=rb at q Lm;generalize ht:Ho o 4 wi ch k mo=ts at q tl;refine Ag.cv<|Bg ["self","place","most"] ["limit","found","longest","row","other","count","distance"] [] [] [] (by kernel_rfl) (by kernel_rfl) ?_
 apply Be;intro mz Kz;refine AA<|Bw S.ii (by decide) zW<|AA<|Z2 S.fin T<|AD el<|AA<|JI ?_
 intro f nf;obtain CI:=CZ nf;obtain S1:=S.grow (D6 (o:=.list []) CI);refine AA<|Ax S1.ii jZ rfl<|AA<|Ax S1.ii ja rfl<|AA ?_
 let Dy:List MV->Hp->Lc->Prop:=λAN AE m=>∃(st:List (Int×Int)×Int)(or oo oc:Option MV),AE=V.set f (.list (st.1.map pv))/\m=([("self",some (.ref y.x)),("place",some (.int k)),("most",some (.int mo)),("limit",some (.int lim)),("found",some (.ref f)),("longest",some (.int st.2)),("row",or),("other",oo),("count",oc),("distance",none)]:Lc)/\((AN=[.ref y.a.r,.ref y.b.r]/\st=([],1))\/(AN=[.ref y.b.r]/\st=Et o k wi lim ([],1) ra)\/(AN=[]/\st=Et o k wi lim (Et o k wi lim ([],1) ra) rb));refine EO Dy (.lst _ _) (λZ Z Z Z Z=>trivial) (λZ Z Z=>trivial) ((Ar ([],1) _ _ _ (AO rfl rfl (.inl ⟨rfl,rfl⟩)))) ?_ ?_
 ·intro mv AN AE m Am;refine Bc Am λst or oo oc As=>?_;obtain CX:=As.1;obtain C3:=As.2.1;obtain hI:=As.2.2;clear As Am;subst CX;subst C3;apply Be;intro mz Kz;apply AA;rcases hI with⟨e1,hs⟩|⟨e1,hs⟩|⟨e1,_⟩
  ·simp only[Dj]at e1;obtain⟨rfl,rfl⟩:=e1;obtain Bu:st.1.length<=2:=by refine AD hs ?_;simp
   obtain S2:=S.grow (D6 (o:=.list (st.1.map pv)) CI);refine Bw (.inr (Aj y.a.r y.a.dr ⟨rfl,S2.a.inst⟩)) (by decide) YY<|AA<|aU S2.a T ER (Wc h1) (by decide) (by decide) (by refine AD k7 ?_;exact Bp 0x110300801300801301125179 rfl Ll) ?_
   refine AD k7<|AA<|Bw S2.ii (by decide) jl<|AA<|Ri S2.fin<|AA<|BW (λhn=>?_) (λhn=>?_)
   ·refine AA<|Bw S2.ii (by decide) jk<|AA<|Rh S2.fin T k ra.toNat 0 lim rfl (Wb Ll hn) rfl rfl (dU el) (dW el Ll) ?_
    simp only[ff];refine AA<|BW (λhg=>?_) (λhg=>?_)
    ·refine AA<|FN (Bi AS)<|AA<|FK AS (by simp;exact Ah 0x11218f6faf0f2000220009 rfl Bu)<|AD set_set<|(Ar (st.1++[((BF o k ra.toNat lim 0:Int),(k:Int)-ra)],(BF o k ra.toNat lim 0:Int)) _ _ _ (AO (by simp) rfl (.inr (.inl ⟨by trivial,by refine AD (A0 hs) ?_;unfold Et;exact AD (if_pos hn) AD (if_pos hg) rfl⟩))))
    ·skip;exact(Ar st _ _ _ (AO rfl rfl (.inr (.inl ⟨by trivial,by refine AD (A0 hs) ?_;unfold Et;exact AD (if_pos hn) AD (if_neg hg) rfl⟩))))
   ·skip;exact(Ar st _ _ _ (AO rfl rfl (.inr (.inl ⟨by trivial,by refine AD (A0 hs) ?_;unfold Et;exact AD (if_neg hn) rfl⟩))))
  ·simp only[Dj]at e1;obtain⟨rfl,rfl⟩:=e1;obtain Bu:st.1.length<=2:=by refine AD hs ?_;obtain this:=Zz (o:=o) (k:=k) (wi:=wi) (lim:=lim) (st:=([],1)) (r:=ra);simp at this;exact Ah 4822595439558665 rfl this
   obtain S2:=S.grow (D6 (o:=.list (st.1.map pv)) CI);refine Bw (.inr (Aj y.b.r y.b.dr ⟨rfl,S2.b.inst⟩)) (by decide) YY<|AA<|aU S2.b T ER (Wc h1) (by decide) (by decide) (by refine AD k8 ?_;exact Bp 0x110300801300801301125179 rfl Lm) ?_
   refine AD k8<|AA<|Bw S2.ii (by decide) jl<|AA<|Ri S2.fin<|AA<|BW (λhn=>?_) (λhn=>?_)
   ·refine AA<|Bw S2.ii (by decide) jk<|AA<|Rh S2.fin T k rb.toNat 0 lim rfl (Wb Lm hn) rfl rfl (dU el) (dW el Lm) ?_
    simp only[ff];refine AA<|BW (λhg=>?_) (λhg=>?_)
    ·refine AA<|FN (Bi AS)<|AA<|FK AS (by simp;exact Ah 0x11218f6faf0f2000220009 rfl Bu)<|AD set_set<|(Ar (st.1++[((BF o k rb.toNat lim 0:Int),(k:Int)-rb)],(BF o k rb.toNat lim 0:Int)) _ _ _ (AO (by simp) rfl (.inr (.inr ⟨by trivial,by refine AD (A0 hs) ?_;unfold Et;exact AD (if_pos hn) AD (if_pos hg) rfl⟩))))
    ·skip;exact(Ar st _ _ _ (AO rfl rfl (.inr (.inr ⟨by trivial,by refine AD (A0 hs) ?_;unfold Et;exact AD (if_pos hn) AD (if_neg hg) rfl⟩))))
   ·skip;exact(Ar st _ _ _ (AO rfl rfl (.inr (.inr ⟨by trivial,by refine AD (A0 hs) ?_;unfold Et;exact AD (if_neg hn) rfl⟩))))
  ·exact cN e1
 ·intro AE m Am;refine Bc Am λst or oo oc As=>?_;obtain CX:=As.1;obtain C3:=As.2.1;obtain hI:=As.2.2;clear As Am;subst CX;subst C3;rcases hI with⟨e1,_⟩|⟨e1,_⟩|⟨_,hs⟩
  ·exact nC e1
  ·exact nC e1
  have Bu:st.1.length<=2:=by
   refine AD hs ?_;obtain h1:=Zz (o:=o) (k:=k) (wi:=wi) (lim:=lim) (st:=([],1)) (r:=ra);obtain h2:=Zz (o:=o) (k:=k) (wi:=wi) (lim:=lim) (st:=Et o k wi lim ([],1) ra) (r:=rb);simp only[tY]at h1;exact AM 0x111322000121030009120231009 rfl h1 h2
  rw[<-hs]at q;apply Be;intro mz Kz;apply AA;obtain S2:=S.grow (D6 (o:=.list (st.1.map pv)) CI);apply Ax S2.ii jc rfl;(refine A1 (F.inst _ k S2.t) λdt kt vt AR=>?_;obtain i1:=AR.1;obtain i3:=AR.2.2.1;clear AR);(refine AI F.X9 λfe Af=>?_;obtain ge:=Af.1;obtain he:=Af.2;clear Af);apply Be;intro mz Kz;refine AA<|Bw (.inr (Aj y.t.x dt ⟨rfl,i1⟩)) i3 ge<|AA<|he _ k mo _ S2.t h1 hm<|AD ht<|AA ?_
  let Mk:List MV->Hp->Lc->Prop:=λAN AE m=>∃(xs:List (Int×Int))(CA:List (Int×Int)×Int)(oc od:Option MV),AN=xs.map pv/\xs.foldl FJ CA=ts.foldl FJ st/\CA.1.length+xs.length<=1003/\AE=V.set f (.list (CA.1.map pv))/\m=([("self",some (.ref y.x)),("place",some (.int k)),("most",some (.int mo)),("limit",some (.int lim)),("found",some (.ref f)),("longest",some (.int CA.2)),("row",or),("other",oo),("count",oc),("distance",od)]:Lc);refine EO Mk (.lst _ _) (λZ Z Z Z Z=>trivial) (λZ Z Z=>trivial) ((Ar ts st _ _ (An rfl rfl (AM 0x11133efbf21000302200093ef9f21009 rfl tl Bu) rfl rfl))) ?_ ?_
  ·intro mv AN AE m Am;refine Bc Am λxs CA oc od As=>?_;obtain hr:=As.1;obtain hf:=As.2.1;obtain hl:=As.2.2.1;obtain CX:=As.2.2.2.1;obtain C3:=As.2.2.2.2;clear As Am;subst CX;subst C3;cases xs with
   |nil=>exact cN hr
   |cons z xs=>
    simp only[By,Dj]at hr;obtain⟨rfl,rfl⟩:=hr;apply Be;intro mz Kz;apply AA;rw[DW]at hf;refine BW (λhg=>?_) (λhg=>?_)
    ·refine AA<|FN (Bi AS)<|AA<|FK AS (by simp at hl|-;exact AM 0x1011418f6faf0f20003efbf21210300309 rfl hl)<|AD set_set<|(Ar xs (CA.1++[z],z.1) _ _ (An rfl ?_ (by simp at hl|-;exact AM 0x1123efbf21012003303efbf21210300309 rfl hl) (by simp) rfl))
     refine AD (A0 hf) ?_;unfold FJ;exact AD (if_pos hg) rfl
    ·skip;refine(Ar xs CA _ _ (An rfl ?_ (by simp at hl|-;exact AM 0x1123efbf21000303efbf21210300309 rfl hl) rfl rfl));refine AD (A0 hf) ?_;obtain this:FJ CA z=CA:=by unfold FJ;exact if_neg hg
     exact AD this rfl
  ·intro AE m Am;refine Bc Am λxs CA oc od As=>?_;obtain hr:=As.1;obtain hf:=As.2.1;obtain hl:=As.2.2.1;obtain CX:=As.2.2.2.1;obtain C3:=As.2.2.2.2;clear As Am;subst CX;subst C3;cases xs with
   |cons z xs=>exact nC hr
   |nil=>
    simp only[KO]at hf;refine .list AS (.done ?_);refine AD (Gh nf)<|AD hf ?_;exact q
def Jp(y:QI)(a:AU):Prop:=a∈y.x::CN y.a++CN y.b++Eh y.t
theorem AH7(T:Txt o)(c0:0<=ch)(c1:ch<=1001)(hN:o.length<=999):
 H0 8 w h₀ y.x 582 o.length 2 (Jp y) (mS y o wi ch) (Ko o wi ch):=by
 refine⟨λV k S=>(BK _ _ _ (BR S.inst (by decide) (by decide) rfl)),jZ,zV,⟨_,⟨zY,(λV k mo Q S hk hm q=>?_)⟩⟩,λV k Q S hk q=>?_,λV AE k h S=>?_,λV k a S h=>?_⟩
 ·exact Ag.up (AH6 k rfl S T hN hk hm c0 c1 q) (by decide)
 ·have S0:F4 V y o wi ch k (A_ o 2 k).1 (A_ o 2 k).2 (A_ o 3 k).1 (A_ o 3 k).2 k:=S;have N:=Rf.of S0.nd;apply Z3 S0.inst S0.fin T yd AA0 zX rfl (by decide) (by decide) (FY _) (MW hk) (n:=7);have ne:∀c,c∈CN y.a\/c∈CN y.b\/c∈Eh y.t->c≠y.x:=λc hc z=>by
   subst z;rcases hc with h|h|h
   ·exact N.xa h
   ·exact N.xb h
   ·exact N.xt h
  obtain S':F4 (V.set y.x (.inst 582 y.d Rd (Rg o wi ch (k+1:Int) y))) y o wi ch (k+1:Int) (A_ o 2 k).1 (A_ o 2 k).2 (A_ o 3 k).1 (A_ o 3 k).2 k:=
   ⟨AS,S0.a.frame λc hc=>AL (ne c (.inl (L5 hc))),S0.b.frame λc hc=>AL (ne c (.inr (.inl (L5 hc)))),JH.frame (λc hc=>AL (ne c (.inr (.inr (L6 hc))))) S0.t,S0.nd⟩
  refine AH5 k rfl S' T hN hk c0 c1 λBf S2 fr=>q Bf ?_ λa ha=>?_
  ·unfold mS;exact S2
  ·exact AD (fr a ha) AG (AL (λz=>ha (by rw[z];unfold Jp;simp))) rfl
 ·have S0:F4 V y o wi ch k (A_ o 2 k).1 (A_ o 2 k).2 (A_ o 3 k).1 (A_ o 3 k).2 k:=S;obtain m1:∀c∈CN y.a,Jp y c:=λc hc=>by unfold Jp;simp[hc]
  obtain m2:∀c∈CN y.b,Jp y c:=λc hc=>by unfold Jp;simp[hc]
  obtain m3:∀c∈Eh y.t,Jp y c:=λc hc=>by unfold Jp;simp[hc]
  exact⟨by apply AG (h _ (by unfold Jp;simp));exact S0.inst,S0.a.frame λc hc=>h c (m1 c (L5 hc)),S0.b.frame λc hc=>h c (m2 c (L5 hc)),JH.frame (λc hc=>h c (m3 c (L6 hc))) S0.t,S0.nd⟩
 ·have S0:F4 V y o wi ch k (A_ o 2 k).1 (A_ o 2 k).2 (A_ o 3 k).1 (A_ o 3 k).2 k:=S;have t0:DN V y.t o 4 wi ch k (CG o wi ch.toNat 4 k).1 (CG o wi ch.toNat 4 k).2.1 (CG o wi ch.toNat 4 k).2.2:=S0.t;unfold Jp at h;simp only[CN,Eh,GD,Th,CH,Fe,or_false]at h;rcases h with rfl|rfl|rfl|rfl|rfl|rfl|rfl|rfl|rfl|rfl|rfl|rfl|rfl|rfl
  ·refine AD S0.inst ?_;simp
  ·refine AD S0.a.inst ?_;simp
  ·refine AD S0.a.last ?_;simp
  ·refine AD S0.a.before ?_;simp
  ·refine AD S0.b.inst ?_;simp
  ·refine AD S0.b.last ?_;simp
  ·refine AD S0.b.before ?_;simp
  ·refine AD t0.inst ?_;simp
  ·refine AD t0.row.inst ?_;simp
  ·refine AD t0.row.last ?_;simp
  ·refine AD t0.row.before ?_;simp
  ·refine AD t0.roots ?_;simp
  ·refine AD t0.EE ?_;simp
  ·refine AD t0.EA ?_;simp
noncomputable def bU:Nat->AV
 |0=>"chain"
 |1=>"tree"
 |_=>"layers"
noncomputable def Hs(Ay:Nat)(le:Int):Int:=if Ay<=1 then le else 2
noncomputable def MR(Ay:Nat)(o:List Int)(le wi ch:Int):Nat->Int->List (Int×Int):=match Ay with
 |0=>chFn o le wi ch
 |1=>Ho o le wi ch
 |_=>Ko o wi ch
theorem iz(T:Txt o)(hN:o.length<=999)(hw:Ay<=2)(h1:1<=le)(h4:le<=4)(h2:1<=wi)(h3:1<=ch)(h5:ch<=1001)
 (q:∀x cls W St AE,H0 8 w h₀ x cls o.length (Hs Ay le) W St (MR Ay o le wi ch)->St AE 0->DE V AE->(∀a,W a->V a=none)->Q (.ref x) AE):Ag w h₀ 7 592 [.str (bU Ay),.bytes o,.int le,.int wi,.int ch] V Q:=by
 refine Bg ["way","octets","least","window","chain"] [] ["Finder","TreeFinder","LayeredFinder"] [] [] (by kernel_rfl) (by kernel_rfl)<|AA<|V9 ?_
 match Ay,hw with
 |0,_=>
  refine AA<|IT<|AA<|v_ T h1 h2 h3 λx d r dr la be AE hs S n1 n2 n3 n4=>q x 501 _ _ AE ((wC (d:=d) (dr:=dr) (r:=r) (la:=la) (be:=be) T h1 h4 (LA h3) h5).up (by decide)) S hs λa ha=>?_
  rcases ha with rfl|rfl|rfl|rfl
  ·exact n1
  ·exact n2
  ·exact n3
  ·exact n4
 |1,_=>
  refine AA<|De<|AA<|V9<|AA<|IT<|AA<|pw T h1 h2 h3 λt AE hs S n1=>q t.x 549 _ _ AE ((bL (t:=t) T h1 h4 (LA h3) h5 hN).up (by decide)) S hs n1
 |2,_=>
  refine AA<|De<|AA<|V9<|AA<|De<|AA<|V9<|AA<|IT<|AA<|AH3 T h2 h3 λy AE hs S n1=>q y.x 582 _ _ AE (AH7 (y:=y) T (LA h3) h5 hN) S hs n1
theorem za:Gs 123 "finder":=gs rfl
theorem zb:Gs 123 "shortest":=gs rfl
theorem js:Gs 123 "known":=gs rfl
theorem jM:Ga 123 "finder":=ga rfl
theorem jN:Ga 123 "shortest":=ga rfl
theorem YI:Ga 123 "known":=ga rfl
theorem y6:Gm 123 "up_to" 108:=gm rfl
theorem y7:Gm 123 "every" 120:=gm rfl
theorem yj:Gc 123 101:=gc rfl
theorem wG{o:List Int}{st mo:Int}(T:Txt o)(h0:0<=st)(h1:st<=o.length)(h2:0<=mo)(q:Q .none V):Ag w h₀ 1 80 [.bytes o,.int st,.int mo] V Q:=by
 obtain this:=T.len;refine Bg ["octets","start","most"] [] ["len"] [] [] (by kernel_rfl) (by kernel_rfl)<|AA<|BW (λZ=>?_) (λh=>absurd h0 h)
 refine AA<|FL (EP this)<|AA<|GU (λh=>absurd h1 h) (λZ=>?_)
 refine AA<|BW (λh=>absurd h (Pr h2)) (λZ=>?_)
 exact q
noncomputable abbrev Vz:List AV:=["finder","shortest","known"]
theorem Af8{St rec k}(F:H0 lv w h₀ x cls N le W St rec)(S:St V k)(ht:V t=some (.inst 123 d [] []))(nt:¬W t)
 (q:Q .none (V.set t (.inst 123 d Vz [.ref x,.int (max le 2),.int 0]))):Ag w h₀ 1 101 [.ref t,.ref x] V Q:=by
 obtain⟨tk,hL⟩:=Ro w.params;(refine A1 (F.inst V k S) λdx kx vx Af=>?_;refine G5 Af λi1 Z Z i4=>?_;clear Af);obtain xt:x≠t:=λz=>by
  (try clear q;try clear nt;subst z);obtain this:(MO.inst cls dx kx vx)=.inst 123 d [] []:=by rw[i1]at ht;exact Au ht
  injection this with _ _ h3 h4;(try clear i1;subst h3);exact nS i4
 apply Bg ["self","finder"] [] ["max","LEAST_MATCH"] [] [] (by kernel_rfl) (by kernel_rfl);apply Be;intro mz Kz;refine AA<|Df ht za (by decide)<|AA<|Ax (.inr (Aj x dx ⟨rfl,(by apply AG (AL xt);exact i1)⟩)) F.ga i4 ?_
 refine AA<|Kx<|AA<|Df AS zb (by decide)<|AA<|Df AS js (by decide) ?_
 refine AD set_set<|AD set_set ?_
 exact q
structure JF(V:Hp)(t d x:AU)(sh:Int)(W:AU->Prop)(St:Hp->Nat->Prop)(k:Nat):Prop where
 inst:V t=some (.inst 123 d Vz [.ref x,.int sh,.int k])
 nt:¬W t
 st:St V k
theorem JF.ii{V t d x sh W St k}(S:JF V t d x sh W St k):EI V (.ref t) 123 Vz [.ref x,.int sh,.int k]:=.inr (Aj t d ⟨rfl,S.inst⟩)
theorem Af6{W St rec}(F:H0 lv w h₀ x cls N le W St rec)(S:St V 0)
 (q:∀t d AE,DE V AE->JF AE t d x (max le 2) W St 0->V t=none->Q (.ref t) AE):Ag w h₀ 2 123 [.ref x] V Q:=by
 refine Jg (yj _) λt d nt nd ne=>?_;have nW:¬W t:=λz=>F.X3 V 0 t S z (CZ nt)
 have fr:∀(o:MO),St (V.set t o) 0:=λo=>F.grow V _ 0 (λa ha=>AL λz=>nW (z▸ha)) S
 refine Af8 F (fr _) AS nW ⟨rfl,?_⟩
 refine AD set_set<|q t d _ (D6 (CZ nt)) ⟨AS,nW,fr _⟩ (CZ nt)
theorem Af9{lv:Nat}{N:Nat}{le sh:Int}{W St rec}{k p:Nat}{pi:Int}(ep:pi=p)(F:H0 lv w h₀ x cls N le W St rec)(S:JF V t d x sh W St k)(h1:k<=p)(h2:p<=N)
 (q:∀AE,JF AE t d x sh W St p->(∀a,¬W a->a≠t->AE a=V a)->Q .none AE):Ag w h₀ (lv+1) 108 [.ref t,.int pi] V Q:=by
 subst ep;refine Bg ["self","place"] [] [] [] [] (by kernel_rfl) (by kernel_rfl) ?_;apply Be;intro mz Kz;apply AA;let Dy:Nat->Hp->Lc->Prop:=λn AE m=>∃j:Nat,j+n=p/\JF AE t d x sh W St j/\(∀a,¬W a->a≠t->AE a=V a)/\m=([("self",some (.ref t)),("place",some (.int p))]:Lc);apply J8 Dy (p-k) ⟨k,(BR (We h1) S (λZ Z Z=>rfl) rfl)⟩;intro n AE m Dh
 (refine AI Dh λj AX=>?_;refine G5 AX λhj S' fr Cs=>?_;clear AX;try clear Dh;subst Cs)
 apply Be;intro mz Kz;refine AA<|Ax S'.ii YI rfl<|AA<|BW (λh=>?_) (λh=>?_)
 ·apply AA
  (refine A1 (F.inst AE j S'.st) λdx kx vx Ai=>?_;obtain i1:=Ai.1;obtain i2:=Ai.2.1;clear Ai)
  refine Ax S'.ii jM rfl<|AA<|Bw (.inr (Aj x dx ⟨rfl,i1⟩)) i2 F.put<|AA<|Ax S'.ii YI rfl<|AA<|F.X2 AE j _ S'.st (AQ 0x11131000220800839102009 rfl h2 h) λBf Xd jB=>?_
  have it:Bf t=some (.inst 123 d Vz [.ref x,.int sh,.int j]):=by apply AG (jB t S'.nt);exact S'.inst
  refine AA<|Ax (.inr (Aj t d ⟨rfl,it⟩)) YI rfl<|AA<|Df it js (by decide)<|⟨(n-1),⟨(AQ 0x1011051000050012004220810839200010349 rfl hj h),⟨(j+1),(BR (rA hj h) ⟨AS,S'.nt,F.grow Bf _ (j+1) (λa ha=>AL λz=>S'.nt (z▸ha)) Xd⟩ (λa ha Ul=>?_) rfl)⟩⟩⟩
  rw[AL Ul,jB a ha,fr a ha Ul]
 ·skip;have:j=p:=by exact AQ 0x110041001001710004108008369102000349 rfl hj h
  (try clear h2;try clear h1;subst this);exact q AE S' fr
theorem Af7{lv:Nat}{N:Nat}{le sh mo:Int}{W St rec}{k p:Nat}{pi:Int}(ep:pi=p)(F:H0 lv w h₀ x cls N le W St rec)(S:JF V t d x sh W St k)(h1:k<=p)(h2:p<N)(hm:1<=mo)(hz:(rec p mo).length<=10000)
 (q:∀AE,JF AE t d x sh W St p->(∀a,¬W a->a≠t->AE a=V a)->Q (.lst (((rec p mo).filter λx=>decide (sh<=x.1)).map pv)) AE):Ag w h₀ (lv+2) 120 [.ref t,.int pi,.int mo] V Q:=by
 subst ep
 apply Bg ["self","place","most"] [] [] ["self"] [] (by kernel_rfl) (by kernel_rfl)
 apply Be;intro mz Kz;refine AA<|Bw S.ii (by decide) y6<|AA<|Af9 rfl F S h1 (DH h2) λCC S1 fr=>AA ?_
 (refine A1 (F.inst CC p S1.st) λdx kx vx A5=>?_;obtain i1:=A5.1;obtain i3:=A5.2.2.1;clear A5)
 (refine AI F.X9 λfe A6=>?_;obtain ge:=A6.1;obtain he:=A6.2;clear A6)
 refine Ax S1.ii jM rfl<|AA<|Bw (.inr (Aj x dx ⟨rfl,i1⟩)) i3 ge<|AA<|Ag.up' (Tq lv) (he CC p mo _ S1.st h2 hm ?_)
 refine AA<|SJ pv (λx=>decide (sh<=x.1)) pv (.lst _ _) trivial (Ah 0x11218f6faf0f200027f1f0f20009 rfl hz) rfl (λa f K' ha kt kf=>?_) ?_
 ·refine AA<|J4 (j:=0) rfl (by decide) (by decide) rfl<|AA<|Ax S1.ii jN rfl<|AA<|Vr (λh=>kt _ h) (λh=>kf _ h)
 exact q CC S1 fr
theorem zd:Gs 158 "size":=gs rfl
theorem zc:Gs 158 "costs":=gs rfl
theorem ze:Gs 158 "steps":=gs rfl
theorem YJ:Ga 158 "size":=ga rfl
theorem Qu:Ga 158 "costs":=ga rfl
theorem UZ:Ga 158 "steps":=ga rfl
theorem jh:Gm 158 "offer" 148:=gm rfl
theorem y8:Gm 158 "told" 155:=gm rfl
theorem yk:Gc 158 141:=gc rfl
noncomputable abbrev bq:List AV:=["size","costs","steps"]
noncomputable def Ru:Option (Int×Int)->MV
 |none=>.none
 |some p=>pv p
structure Xg where
 x:AU
 d:AU
 cs:AU
 ss:AU
noncomputable abbrev WS:=List (Option Int)×List (Option (Int×Int))
structure Fo(V:Hp)(a:Xg)(n:Nat)(S:WS):Prop where
 inst:V a.x=some (.inst 158 a.d bq [.int n,.ref a.cs,.ref a.ss])
 CQ:V a.cs=some (.list (S.1.map GP))
 steps:V a.ss=some (.list (S.2.map Ru))
 l1:S.1.length=n+1
 l2:S.2.length=n+1
 ne:a.cs≠a.ss
noncomputable def IZ(a:Xg):List AU:=[a.x,a.cs,a.ss]
theorem Fo.ii(h:Fo V a n S):EI V (.ref a.x) 158 bq [.int n,.ref a.cs,.ref a.ss]:=.inr (Aj a.x a.d ⟨rfl,h.inst⟩)
theorem Fo.frame(h:Fo V a n S)(f:∀b∈IZ a,AE b=V b):Fo AE a n S:=
 ⟨by apply AG (f _ (by simp[IZ]));exact h.inst,by apply AG (f _ (by simp[IZ]));exact h.CQ,by apply AG (f _ (by simp[IZ]));exact h.steps,h.l1,h.l2,h.ne⟩
theorem Fo.grow(h:Fo V a n S)(f:DE V AE):Fo AE a n S:=⟨f _ _ h.inst,f _ _ h.CQ,f _ _ h.steps,h.l1,h.l2,h.ne⟩
noncomputable def MS(n:Nat):WS:=(some 0::CD n none,CD (n+1) none)
theorem AR6:CD n MV.none=(CD n (none:Option Int)).map GP:=by simp[GP]
theorem AR7:CD n MV.none=(CD n (none:Option (Int×Int))).map Ru:=by simp[Ru]
theorem Ai3(hn:n<=1000)(q:∀a AE,DE V AE->Fo AE a n (MS n)->(∀b∈IZ a,V b=none)->Q (.ref a.x) AE):Ag w h₀ 2 158 [.int (n:Nat)] V Q:=by
 refine Jg (yk _) λx d nx nd ne=>Bg ["self","size"] [] [] [] [] (by kernel_rfl) (by kernel_rfl)<|AA<|Df AS zd (by decide)<|AA ?_
 refine AD set_set<|CU<|AA<|CU<|AA<|Pd BY (WW hn) WX λc1 n1=>?_
 obtain x1:=Kp n1;obtain z1:=Kq n1;refine AA<|bS BY (Bi AS) (by simp;exact Ah 0x11218f6faf0f20012303ef8f20009 rfl hn) λc2 n2=>?_
 have x2:=Kp n2
 have z2:=Kq n2
 have y2:c2≠x:=(neN AS z2).symm
 rw[AL y2]at z2
 refine AA<|Df (by refine AG (AL y2.symm)<|AG (AL x1.symm) ?_;exact AS) zc (by decide) ?_
 refine AA<|CU<|AA<|Pd BY (Ah 0x11218f6faf0f212008313ef8f20009 rfl hn) (Ah 0x11212008318f6faf0f251 rfl) λc3 n3=>?_
 have x3:=Kp n3
 have z3:=Kq n3
 have y3:c3≠c2:=(neN AS z3).symm
 rw[AL y3]at z3
 obtain y4:=(neN AS z3).symm
 rw[AL y4,AL x3]at z3
 refine AA<|Df (by apply AG (AL x3.symm);exact AS) ze (by decide) ?_
 refine⟨rfl,q ⟨x,d,c2,c3⟩ _ ?_ ⟨?_,?_,?_,by simp[MS],by simp[MS],y3.symm⟩ ?_⟩
 ·intro b o e
  have b0:b≠x:=neN e (CZ nx);obtain b1:=neN e z1;obtain b2:=neN e z2
  obtain b3:=neN e z3
  refine AG (AL b0)<|AG (AL b3)<|AG (AL b0)<|AG (AL b2)<|AG (AL b1)<|AG (AL b0) ?_;exact e
 ·apply AG AS;rfl
 ·refine AG (AL y2)<|AG (AL y3.symm)<|AG (AL y2)<|AG AS ?_
  refine AD (HR ..)<|AD AR6 ?_;rfl
 ·refine AG (AL x3)<|AG AS ?_
  refine AD (show((n:Int)+1).toNat=n+1 by exact Ah 0x11210131021021200312008394 rfl)<|AD AR7 ?_;rfl
 ·intro b hb
  simp only[IZ,CH,Fe,or_false]at hb;rcases hb with rfl|rfl|rfl
  ·exact CZ nx
  ·exact z2
  ·exact z3
noncomputable def D1(n:Nat)(S:WS)(at_:Nat)(st:Int×Int)(c:Int):WS:=
 if(n:Int)<at_+BH st.1 then S else
 match S.1.getD at_ none with
 |none=>S
 |some b=>match S.1.getD ((at_:Int)+BH st.1).toNat none with
  |none=>(S.1.set ((at_:Int)+BH st.1).toNat (some (b+c)),S.2.set ((at_:Int)+BH st.1).toNat (some st))
  |some u=>if b+c<u then(S.1.set ((at_:Int)+BH st.1).toNat (some (b+c)),S.2.set ((at_:Int)+BH st.1).toNat (some st))else S
noncomputable def Gb(V:Hp)(a:Xg)(S:WS):Hp:=(V.set a.cs (.list (S.1.map GP))).set a.ss (.list (S.2.map Ru))
theorem Fo.to(h:Fo V a n S)(h1:S'.1.length=n+1)(h2:S'.2.length=n+1):Fo (Gb V a S') a n S':=by
 obtain e1:=neT h.inst h.CQ rfl
 obtain e2:=neT h.inst h.steps rfl
 unfold Gb
 exact⟨by refine AG (AL e2)<|AG (AL e1) ?_;exact h.inst,by exact AG (AL h.ne) AS,AS,h1,h2,h.ne⟩
theorem qT(h:Fo V a n S):Gb V a S=V:=by
 unfold Gb
 exact AD (set_same h.CQ) set_same h.steps
theorem getD_map{α:Type}{f:Option α->MV}{l:List (Option α)}{i:Nat}(h:i<l.length):(l.map f)[i]? =some (f (l.getD i none)):=by
 (refine AG (EU)<|AD (Ee h) ?_;rw[Ej];refine AD (Ee h) ?_);rfl
theorem qI{n:Nat}{S:WS}{at_:Nat}{ai:Int}(ea:ai=at_){st:Int×Int}{c b:Int}(h:Fo V a n S)(hn:n<=1000)(h0:at_<=n)(hs:0<=BH st.1)(hb:S.1.getD at_ none=some b)
 (q:Q .none (Gb V a (D1 n S at_ st c))):Ag w h₀ 2 148 [.ref a.x,.int ai,pv st,.int c] V Q:=by
 subst ea
 obtain l1:=h.l1
 obtain l2:=h.l2
 unfold D1 at q
 apply Bg ["self","at","step","cost"] ["there","whole"] ["step_size"] [] [] (by kernel_rfl) (by kernel_rfl)
 apply Be;intro mz Kz;refine AA<|pC<|AA<|Ax h.ii YJ rfl<|AA<|BW (λhg=>?_) (λhg=>?_)
 ·skip
  rw[if_pos hg,qT h]at q
  exact q
 ·rw[if_neg hg,hb]at q
  simp only at q
  refine AA<|Ax h.ii Qu rfl<|AA<|CR (x:=.int b) (Bi h.CQ) ER (dY hn h0) (by refine AD (HR ..)<|AD (getD_map (AQ 0x1101410002122031049200009 rfl h0 l1))<|AD hb ?_;rfl) ?_
  refine AA<|Ax h.ii Qu rfl<|AA<|CR (Bi h.CQ) (Pw hs) (Px hn hg) (getD_map (rB l1 hg)) ?_
  obtain fin:∀(S':WS),S'=(S.1.set ((at_:Int)+BH st.1).toNat (some (b+c)),S.2.set ((at_:Int)+BH st.1).toNat (some st))->Q .none (Gb V a S')->Q .none ((V.set a.cs (.list ((S.1.map GP).set ((at_:Int)+BH st.1).toNat (.int (b+c))))).set a.ss (.list ((S.2.map Ru).set ((at_:Int)+BH st.1).toNat (pv st)))):=λS' e q'=>by
   subst e
   unfold Gb at q'
   simp only[Te]at q'
   exact q'
  obtain e2:a.x≠a.cs:=neT h.inst h.CQ rfl
  obtain RH:∀o',EI (V.set a.cs o') (.ref a.x) 158 bq [.int n,.ref a.cs,.ref a.ss]:=λo'=>.inr (Aj a.x a.d ⟨rfl,(by apply AG (AL e2);exact h.inst)⟩)
  cases hu:S.1.getD ((at_:Int)+BH st.1).toNat none with
  |none=>
   rw[hu]at q
   simp only[GP]
   apply Be;intro mz Kz;refine AA (IT (AA ?_))
   refine IT<|AA<|Ax h.ii Qu rfl<|AA<|J' h.CQ (Pw hs) (Px hn hg) (by simp;exact Wf l1 hg)<|AA<|Ax (RH _) UZ rfl<|AA<|J' (by apply AG (AL h.ne.symm);exact h.steps) (Pw hs) (Px hn hg) (by simp;exact Wf l2 hg) ?_
   exact fin _ rfl q
  |some u=>
   rw[hu]at q
   simp only[GP]
   refine AA (De (AA ?_))
   refine Ax h.ii Qu rfl<|AA<|CR (x:=.int u) (Bi h.CQ) (Pw hs) (Px hn hg) (by refine AD (getD_map (rB l1 hg))<|AD hu ?_;rfl) ?_
   refine AA<|BW (λhl=>?_) (λhl=>?_)
   ·refine AA<|Ax h.ii Qu rfl<|AA<|J' h.CQ (Pw hs) (Px hn hg) (by simp;exact Wf l1 hg)<|AA<|Ax (RH _) UZ rfl<|AA<|J' (by apply AG (AL h.ne.symm);exact h.steps) (Pw hs) (Px hn hg) (by simp;exact Wf l2 hg) ?_
    simp only at q
    rw[if_pos hl]at q;exact fin _ rfl q
   ·skip;simp only at q;rw[if_neg hl,qT h]at q;exact q
noncomputable def HL(ss:List (Option (Int×Int))):Nat->Nat->List (Int×Int)
 |0,_=>[]
 |f+1,at_=>if at_=0 then[]else match ss.getD at_ none with
  |none=>[]
  |some st=>st::HL ss f ((at_:Int)-BH st.1).toNat
theorem bJ:(∀(ss:List (Option (Int×Int)))(x:Nat),HL ss 0 x=[])/\(∀(ss:List (Option (Int×Int)))(x f:Nat),HL ss (f+1) x=if x=0 then[]else match ss.getD x Tz with|Tz=>[]|Im st=>st::HL ss f ((↑x:Int)-BH st.fst).toNat):=⟨by intros;rfl,by intros;rfl⟩
def WC(n:Nat)(S:WS):Prop:=∀at_:Nat,1<=at_->at_<=n->∃st,S.2.getD at_ none=some st/\1<=BH st.1/\BH st.1<=at_
theorem Ai4(h:Fo V a n S)(hn:n<=1000)(ok:WC n S)(q:Q (.lst ((HL S.2 n n).reverse.map pv)) V):Ag w h₀ 2 155 [.ref a.x] V Q:=by
 obtain l2:=h.l2;refine Ag.cv<|Bg ["self"] ["found","at"] ["step_size"] [] [] (by kernel_rfl) (by kernel_rfl) ?_
 refine AA<|JI<|λf nf=>?_
 obtain CI:=CZ nf;obtain h1:=h.grow (D6 (o:=.list []) CI);refine AA<|Ax h1.ii YJ rfl<|AA ?_
 let Dy:Nat->Hp->Lc->Prop:=λk AE m=>∃(Az:List (Int×Int))(at_ fu:Nat),k=at_/\at_<=fu/\at_<=n/\Az.length+at_<=n/\HL S.2 n n=Az++HL S.2 fu at_/\AE=V.set f (.list (Az.map pv))/\m=([("self",some (.ref a.x)),("found",some (.ref f)),("at",some (.int at_))]:Lc);refine J8 Dy n
  (BK ([]) n n (Dz rfl (BX _) (BX _) (by simp) rfl rfl rfl)) ?_
 intro k AE m Am;refine A1 Am λAz at_ fu As=>?_;obtain CX:=As.1;obtain kS:=As.2.1;obtain Oe:=As.2.2.1;obtain EB:=As.2.2.2.1;obtain hd:=As.2.2.2.2.1;obtain C3:=As.2.2.2.2.2.1;obtain xA:=As.2.2.2.2.2.2;clear As Am;subst CX;subst C3;subst xA;obtain h2:=h.grow (D6 (o:=.list (Az.map pv)) CI);refine Be ?_;intro mz Kz;refine AA<|BW (λhg=>?_) (λhg=>?_)
 ·(refine AI (ok k (Ah 77124220928655929 rfl hg) Oe) λst AR=>?_;obtain Bu:=AR.1;obtain s1:=AR.2.1;obtain s2:=AR.2.2;clear AR);obtain⟨fu,rfl⟩:∃j,fu=j+1:=⟨fu-1,by exact AM 0x10114110041000410004121200430041080239001009 rfl kS hg⟩;simp only[bJ]at hd;rw[if_neg (by exact Ah 1234021501062611513 (by kernel_rfl) hg),Bu]at hd;simp only at hd;apply Be;intro mz Kz;refine AA<|FN (Bi AS)<|AA<|Ax h2.ii UZ rfl<|AA<|CR (x:=pv st) (Bi h2.steps) ER (dY hn Oe) (by refine AD (HR ..)<|AD (getD_map (dZ l2 Oe))<|AD Bu ?_;rfl) ?_
  refine AA<|FK AS (by simp;exact AQ 0x10111518f6faf0f20002010003093ef8f22009 rfl hn EB) ?_
  refine AD set_set ?_;obtain h3:=h.grow (D6 (o:=.list (Az.map pv++[pv st])) CI);refine AA<|Ax h3.ii UZ rfl<|AA<|CR (x:=pv st) (Bi h3.steps) ER (dY hn Oe) (by refine AD (HR ..)<|AD (getD_map (dZ l2 Oe))<|AD Bu ?_;rfl) ?_
  refine AA<|pC<|⟨(((k:Int)-BH st.1).toNat),⟨(Bp 0x101141001400010084920080119011219 rfl s1 s2),(BK (Az++[st]) _ fu (Dz rfl (Bm 0x1010006101141001008490121030009011219 rfl s1 kS) (Bm 0x1010006101141001008490011219100009 rfl Oe s1) (by simp;exact Cn 0x10111510011520011084912003301080119011219201000309 rfl EB s1 s2) (by apply AG hd;simp) (by simp) ?_))⟩⟩
  refine AD (show(((k:Int)-BH st.1).toNat:Int)=(k:Int)-BH st.1 by exact Bp 0x11031013100310030100840100849850080119 rfl s2) ?_;rfl
 ·refine AA<|w_rev (Bi AS) (by simp;exact AQ 0x10111518f6faf0f20002010003093ef8f22009 rfl hn EB) ?_
  obtain this:k=0:=by exact Ah 0x11031120200400802369 rfl hg
  subst this;obtain e:HL S.2 fu 0=[]:=by cases fu<;>simp[bJ]
  rw[e,HS]at hd;refine .sub (D6 CI) (.done ?_);refine AD (A0 List.map_reverse)<|AD (A0 hd) ?_
  exact q
structure KS(w:CE)(h₀:BU)(p:MV)(lit:Int->Int)(AH:Int->Int->Int):Prop where
 ok:∃c ks vs fl fm,p=.ins c ks vs/\CL "literal"∉ks/\CL "match"∉ks/\(∀P,GM P c "literal" fl)/\(∀P,GM P c "match" fm)/\
  (∀V o(Q:MV->Hp->Prop),Q (.int (lit o)) V->Ag w h₀ 3 fl [p,.int o] V Q)/\(∀V l d(Q:MV->Hp->Prop),Q (.int (AH l d)) V->Ag w h₀ 3 fm [p,.int l,.int d] V Q)
theorem yB(h0:0<=c)(h1:c<=1):KS w h₀ (.ins 216 Qp [.int a,.int b,.int c]) (λZ=>a) (Ld b c):=
 ⟨_,_,_,_,_,rfl,by decide,by decide,y9,y_,λV o Q q=>(x_ q).up (by decide),λV l d Q q=>(yA h0 h1 q).up (by decide)⟩
noncomputable def costOf(lit:Int->Int)(AH:Int->Int->Int)(s:Int×Int):Int:=if s.1=0 then lit s.2 else AH s.1 s.2
noncomputable def CQ(lit:Int->Int)(AH:Int->Int->Int)(l:List (Int×Int)):Int:=(l.map (costOf lit AH)).sum
theorem NX(P:KS w h₀ p lit AH)(hl:a=.lst (l.map pv))(q:Q (.int (CQ lit AH l)) V):Ag w h₀ 4 177 [a,p] V Q:=by
 subst hl;(refine GK P.ok λc ks vs fl fm Af=>?_;obtain K5:=Af.1;obtain n1:=Af.2.1;obtain n2:=Af.2.2.1;obtain g1:=Af.2.2.2.1;obtain g2:=Af.2.2.2.2.1;obtain P1:=Af.2.2.2.2.2.1;obtain P2:=Af.2.2.2.2.2.2;clear Af;subst K5);apply Bg ["steps","price"] ["whole","first","second"] [] [] [] (by kernel_rfl) (by kernel_rfl);apply Be;intro mz Kz;apply AA;let Mk:List MV->Hp->Lc->Prop:=λAN AE m=>AE=V/\∃(xs:List (Int×Int))(s:Int)(o1 o2:Option MV),AN=xs.map pv/\s+CQ lit AH xs=CQ lit AH l/\m=([("steps",some (.lst (l.map pv))),("price",some (.ins c ks vs)),("whole",some (.int s)),("first",o1),("second",o2)]:Lc);refine EO Mk (.lst _ _) (λZ Z Z Z Z=>trivial) (λZ Z Z=>trivial) ((HW rfl (Ar l 0 _ _ (AO rfl (by simp) rfl)))) ?_ ?_
 ·intro mv AN AE m Am;obtain Hb:=Am.1;obtain As:=Am.2;refine Bc As λxs s o1 o2 Ck=>?_;obtain hr:=Ck.1;obtain hs:=Ck.2.1;obtain Hc:=Ck.2.2;clear Ck As Am;subst Hb;subst Hc;cases xs with
  |nil=>exact cN hr
  |cons z xs=>
   simp only[By,Dj]at hr;obtain⟨rfl,rfl⟩:=hr;obtain e:CQ lit AH (z::xs)=costOf lit AH z+CQ lit AH xs:=by simp[CQ]
   apply Be;intro mz Kz;refine AA<|F6 (λh=>?_) (λh=>?_)
   ·refine AA<|Bw (.inl rfl) n1 g1<|AA<|P1 _ _ _<|(HW rfl (Ar xs _ _ _ (AO rfl ?_ rfl)))
    refine AD (A0 hs)<|AD e ?_;unfold costOf;refine AD (if_pos h) ?_;exact DR 0x111121113013211101335 rfl
   ·refine AA<|Bw (.inl rfl) n2 g2<|AA<|P2 _ _ _ _<|(HW rfl (Ar xs _ _ _ (AO rfl ?_ rfl)))
    refine AD (A0 hs)<|AD e ?_;unfold costOf;refine AD (if_neg h) ?_;exact DR 0x111121113013211101335 rfl
 ·intro AE m Am;obtain Hb:=Am.1;obtain As:=Am.2;refine Bc As λxs s o1 o2 Ck=>?_;obtain hr:=Ck.1;obtain hs:=Ck.2.1;obtain Hc:=Ck.2.2;clear Ck As Am;subst Hb;subst Hc;cases xs with
  |cons z xs=>exact nC hr
  |nil=>
   obtain this:CQ lit AH []=0:=by simp[CQ]
   rw[this]at hs;refine AD (show s=CQ lit AH l by exact Bd 0x1103101311015110201359 rfl hs)<|q
noncomputable def M6(lit:Int->Int)(AH:Int->Int->Int)(o:List Int)(start:Nat)(sh:Int)(n:Nat)(ms:List (Int×Int))(S:WS)(at_:Nat):WS:=
 ms.foldl (λS x=>(BP sh (x.1+1)).foldl (λS part=>D1 n S at_ (part,x.2) (AH part x.2)) S) (D1 n S at_ (0,o.getD (start+at_) 0) (lit (o.getD (start+at_) 0)))
noncomputable def Ef(lit:Int->Int)(AH:Int->Int->Int)(o:List Int)(start:Nat)(sh:Int)(n:Nat)(ms:Nat->List (Int×Int)):Nat->WS
 |0=>MS n
 |k+1=>M6 lit AH o start sh n (ms k) (Ef lit AH o start sh n ms k) k
theorem Qi:(∀(lit:Int->Int)(AH:Int->Int->Int)(o:List Int)(start:Nat)(sh:Int)(n:Nat)(ms:Nat->List (Int×Int)),Ef lit AH o start sh n ms 0=MS n)/\(∀(lit:Int->Int)(AH:Int->Int->Int)(o:List Int)(start:Nat)(sh:Int)(n:Nat)(ms:Nat->List (Int×Int))(k:Nat),Ef lit AH o start sh n ms (k+1)=M6 lit AH o start sh n (ms k) (Ef lit AH o start sh n ms k) k):=⟨by intros;rfl,by intros;rfl⟩
structure IY(n k:Nat)(S:WS):Prop where
 l1:S.1.length=n+1
 l2:S.2.length=n+1
 some:∀j,j<=k->j<=n->S.1.getD j none≠none
theorem YS{α:Type}{l:List α}{i j:Nat}{v d:α}(h:i<l.length):(l.set i v).getD j d=if i=j then v else l.getD j d:=by
 (rw[Ej];refine AD (fN) ?_;rw[Ej]);by_cases e:i=j
 ·refine AD (if_pos e)<|AD (if_pos e)<|AD (if_pos (e▸h)) ?_;rfl
 ·rw[if_neg e,if_neg e]
theorem VT{n k:Nat}{S:WS}{at_:Nat}{st:Int×Int}{c:Int}(h:IY n k S)(hs:0<=BH st.1):IY n k (D1 n S at_ st c):=by
 unfold D1
 split
 ·exact h
 ·rename_i hg
  have Om:=h.l1
  have Lo:∀v,IY n k (S.1.set ((at_:Int)+BH st.1).toNat (some v),S.2.set ((at_:Int)+BH st.1).toNat (some st)):=λv=>
   ⟨by simp[h.l1],by simp[h.l2],λj hj hn=>by
    simp only;refine AD (YS (Cn 0x1001010081010151001008392122031049010083208369 rfl hg Om)) ?_;split
    ·simp
    ·exact h.some j hj hn⟩
  split
  ·exact h
  ·split
   ·exact Lo _
   ·split
    ·exact Lo _
    ·exact h
theorem AM2{n k:Nat}{S:WS}{st:Int×Int}{c:Int}(h:IY n k S)(hk:k<n)(hs:BH st.1=1):IY n (k+1) (D1 n S k st c):=by
 obtain h':=VT (at_:=k) (st:=st) (c:=c) h (Aw 76614039497736537 rfl hs)
 refine⟨h'.l1,h'.l2,λj hj hn=>?_⟩
 by_cases e:j<=k
 ·exact h'.some j e hn
 ·obtain ej:j=k+1:=by exact AM 0x11031013121030041000069121030009 rfl hj e
  subst ej
  obtain Om:=h.l1;unfold D1;refine AD (if_neg (Bm 0x1011401108300836120159001029 rfl hk hs)) ?_;obtain hb:=h.some k (BX _) (DH hk);cases Kd:S.1.getD k none with
  |none=>exact absurd Kd hb
  |some b=>
   simp only;obtain e2:((k:Int)+BH st.1).toNat=k+1:=by exact Bp 0x1110411000510104100141200301008394120159 rfl hs
   refine AD e2 ?_;cases hu:S.1.getD (k+1) none with
   |none=>simp only;refine AD (YS (AQ 0x1101410120032122031049200029 rfl hk Om))<|AD (if_pos rfl) ?_;simp
   |some u=>
    simp only;split
    ·simp only;refine AD (YS (AQ 0x1101410120032122031049200029 rfl hk Om))<|AD (if_pos rfl) ?_;simp
    ·refine AD hu ?_;simp
theorem PL(h:x∈BP a b):a<=x/\x<b:=by
 unfold BP at h;(refine AI (DJ.mp h) λk AR=>?_;obtain hk:=AR.1;obtain C4:=AR.2;clear AR;subst C4);have:=JV.mp hk;exact rC this
theorem o7(h:0<=a):1<=BH a:=by unfold BH;split<;>omega
theorem nu{n k:Nat}{at_:Nat}{AH:Int->Int->Int}{d:Int}:∀(l:List Int)(S:WS),(∀x∈l,0<=x)->IY n k S->IY n k (l.foldl (λS part=>D1 n S at_ (part,d) (AH part d)) S)
 |[],S,_,h=>h
 |x::l,S,hl,h=>by
  refine AD DW<|nu l _ (λy hy=>hl y (.tail _ hy)) (VT h (by obtain this:=o7 (hl x (.head _));simp only;exact LA this))
theorem mW{n k:Nat}{at_:Nat}{AH:Int->Int->Int}{sh:Int}(h0:0<=sh):∀(l:List (Int×Int))(S:WS),IY n k S->IY n k (l.foldl (λS x=>(BP sh (x.1+1)).foldl (λS part=>D1 n S at_ (part,x.2) (AH part x.2)) S) S)
 |[],S,h=>h
 |x::l,S,h=>by
  refine AD DW<|mW h0 l _ (nu _ _ (λy hy=>by have:=(PL hy).1;exact Bd 0x111301021011119110219 rfl h0 this) h)
theorem iL{lit AH o start sh n ms}(h0:0<=sh):∀k,k<=n->IY n k (Ef lit AH o start sh n ms k)
 |0,_=>by
  refine⟨by simp[Qi,MS],by simp[Qi,MS],λj hj hn=>?_⟩
  obtain this:j=0:=by exact Ah 0x110311202004020009 rfl hj
  subst this
  simp[Qi,MS]
 |k+1,hk=>by
  obtain ih:=iL (lit:=lit) (AH:=AH) (o:=o) (start:=start) (n:=n) (ms:=ms) h0 k (Sm hk);simp only[Qi,M6];exact mW h0 _ _ (AM2 ih (Np hk) (by simp[BH]))
theorem xu(P):FD P 170 (Dc P 170) (M0 P 170):=⟨(BK _ _ _ rfl),rfl,rfl,rfl,rfl,rfl,rfl,rfl,rfl⟩
noncomputable def Zi(lit:Int->Int)(AH:Int->Int->Int)(o:List Int)(start:Nat)(sh:Int)(ms:Nat->List (Int×Int)):List (Int×Int):=
 (HL (Ef lit AH o start sh (o.length-start) ms (o.length-start)).2 (o.length-start) (o.length-start)).reverse
theorem SQ(h:b∉IZ a):Gb V a S b=V b:=by
 simp only[IZ,CH,Fe,or_false,not_or]at h;unfold Gb;rw[AL h.2.2,AL h.2.1]
theorem Ak8(h:Fo V a n S):Gb (Gb V a S') a ug=Gb V a ug:=by
 unfold Gb;funext b;by_cases e1:b=a.ss
 ·subst e1;simp[AS]
 ·refine AG (AL e1)<|AD (AL e1) ?_
  by_cases e2:b=a.cs
  ·(try clear e1;subst e2);simp[AS]
  ·rw[AL e2,AL e2,AL e1,AL e2]
theorem mA{St rec o start p lit AH}(F:H0 8 w h₀ x cls N le W St rec)(S0:St V 0)(T:Txt o)
 (hs:start<=o.length) (hN:o.length<=N) (hm:1<=mo) (P:KS w h₀ p lit AH) (hr:∀k,(rec k mo).length<=2000/\∀y∈rec k mo,y.1<=100000) (hle:le<=100)
 (ok:WC (o.length-start) (Ef lit AH o start (max le 2) (o.length-start) (λk=>(rec (start+k) mo).filter λy=>decide (max le 2<=y.1)) (o.length-start)))
 (q:∀AE,(∀a,¬W a->V a≠none->AE a=V a)->Q (.lst ((Zi lit AH o start (max le 2) (λk=>(rec (start+k) mo).filter λy=>decide (max le 2<=y.1))).map pv)) AE):
 Ag w h₀ 12 170 [.bytes o,.int start,.ref x,.int mo,p] V Q:=by
 (refine GK P.ok λpc nz oF fl fm AX=>?_;refine En AX λep n1 n2 g1 g2 P1 P2=>?_;clear AX);have tl:=T.len;generalize Y1:(λk=>(rec (start+k) mo).filter λy=>decide (max le 2<=y.1))=ms at q ok;generalize Fg:max le 2=sh at q ok Y1;have Uu:0<=sh:=by exact Bd 0x101141010401021012211b59 rfl Fg
 unfold Zi at q;generalize hn:o.length-start=n at q ok;refine YH (n:=11) (ps:=["octets","start","finder","most","price","enough"]) (ls:=["trail","ways","at","place","matches","length","distance","part","taken"]) (G:=["check_range","Trail","Ways","len","range"]) (dm:=[.none]) (dv:=[T9]) (C:=[]) [] (xu _) (gM 5 ?_) (λZ Z=>by simp[BD,AZ]) (by decide) rfl rfl ?_
 ·intro v0 v1 v2 v3 v4 S;kernel_rfl
 apply Be;intro mz Kz;refine AA<|wG T ER (Wg hs) (LA hm)<|AA<|Af6 F S0 λt d CC k9 S1 nt=>?_
 rw[Fg]at S1;refine AA<|FL (EP tl)<|AA<|AD (show(o.length:Int)-start=(n:Int)by exact AQ 0x11001510110511000510100520810800845201000449001009 rfl hs hn)<|Ai3 (Wh tl hn) λa Bf IF Sw nw=>AA ?_
 have Wn:∀b,W b->CC b≠none:=λb hb=>F.X3 CC 0 b S1.st hb;have Ww:∀b∈IZ a,¬W b:=λb hb z=>Wn b z (nw b hb);have tw:t∉IZ a:=λz=>by have:=nw t z;rw[S1.inst]at this;exact sN this
 obtain dn:∀b,V b≠none->b≠t/\b∉IZ a:=λb hb=>⟨λz=>hb (by refine AD z ?_;exact nt),λz=>hb (NZ k9 (nw b z))⟩;obtain base:∀b,V b≠none->Bf b=V b:=λb hb=>by
  cases e:V b with
  |none=>exact absurd e hb
  |some o'=>exact IF b o' (k9 b o' e)
 obtain S2:JF Bf t d x sh W St 0:=⟨IF _ _ S1.inst,S1.nt,F.grow CC Bf 0 (λb hb=>by
  cases e:CC b with
  |none=>exact absurd e (Wn b hb)
  |some o'=>exact IF b o' e) S1.st⟩
 let Dy:Nat->Hp->Lc->Prop:=λk AE m=>∃(at_ kk:Nat)(o1 o2 o3 o4 o5 o6:Option MV),at_+k=n/\kk<=start+at_/\JF AE t d x sh W St kk/\Fo AE a n (Ef lit AH o start sh n ms at_)/\(∀b,¬W b->b≠t->b∉IZ a->AE b=Bf b)/\m=([("octets",some (.bytes o)),("start",some (.int start)),("finder",some (.ref x)),("most",some (.int mo)),("price",some p),("enough",some .none),("trail",some (.ref t)),("ways",some (.ref a.x)),("at",some (.int at_)),("place",o1),("matches",o2),("length",o3),("distance",o4),("part",o5),("taken",o6)]:Lc);refine J8 Dy n
  (ip 0 0 _ _ _ _ _ _ (Cc (Ah 18764712116788 rfl) (Ah 1176854605856 rfl) S2 Sw (λZ Z Z Z=>rfl) rfl)) ?_
 intro k AE m Am;refine iZ Am λat_ kk o1 o2 o3 o4 o5 o6 As=>Em As λhk hkk f9 T7 fr CX=>?_;clear As Am;subst CX;apply Be;intro mz Kz;refine AA<|Ax T7.ii YJ rfl<|AA<|BW (λhg=>?_) (λhg=>?_)
 ·refine AA<|Bw f9.ii (by decide) y7<|AA<|w_up (j:=10) rfl (Af7 (lv:=8) (p:=start+at_) (AM 0x111110003810800835 rfl) F f9 hkk (Lz 0x10011000811100162010003230810839300040449204009 rfl hN hn hg) hm (by have:=(hr (start+at_)).1;exact Ah 0x11227f1f0f20007df0f20009 rfl this) λDC S3 jC=>?_)
  refine AD (show((rec (start+at_) mo).filter λy=>decide (sh<=y.1))=ms at_ from congrFun Y1 at_) ?_;have Mw:Fo DC a n (Ef lit AH o start sh n ms at_):=T7.frame λb hb=>jC b (Ww b hb) λz=>tw (z▸hb);obtain AB6:∀y∈ms at_,sh<=y.1/\y.1<=100000:=λy hy=>by
   rw[<-congrFun Y1 at_]at hy;have:=Ez.mp hy;exact⟨by simpa using this.2,(hr _).2 y this.1⟩
  refine AA<|Bw Mw.ii (by decide) jh<|AA<|Hr Nt (CM 0x100110071110052081080083330810839300020449 rfl hn hg) (EP tl)<|AA<|Bw (.inl ep) n1 g1<|AA<|Hr Nt (CM 0x100110071110052081080083330810839300020449 rfl hn hg) (EP tl)<|AA<|w_up (j:=3) rfl (P1 _ _ _ ?_)
  refine AA<|AD (show((start:Int)+(at_:Int)).toNat=start+at_ by exact Nq) ?_
  have iv:=iL (lit:=lit) (AH:=AH) (o:=o) (start:=start) (n:=n) (ms:=ms) Uu at_ (KC hg);obtain⟨b0,hb0⟩:∃b,(Ef lit AH o start sh n ms at_).1.getD at_ none=some b:=Tx.mp (iv.some at_ (BX _) (KC hg));refine qI (at_:=at_) (st:=(0,o.getD (start+at_) 0)) rfl Mw (Wh tl hn) (KC hg) (by simp[BH]) hb0<|AA ?_
  have VA:=VT (at_:=at_) (st:=(0,o.getD (start+at_) 0)) (c:=lit (o.getD (start+at_) 0)) iv (by simp[BH]);obtain um:=Mw.to VA.l1 VA.l2;have step:∀(SS:WS),M6 lit AH o start sh n (ms at_) (Ef lit AH o start sh n ms at_) at_=SS->Ef lit AH o start sh n ms (at_+1)=SS:=λSS e=>e;unfold M6 at step;generalize hI:D1 n (Ef lit AH o start sh n ms at_) at_ (0,o.getD (start+at_) 0) (lit (o.getD (start+at_) 0))=I1 at VA um step;let Mk:List MV->Hp->Lc->Prop:=λAN DV m=>∃(xs:List (Int×Int))(SS:WS)(o3 o4 o5:Option MV),AN=xs.map pv/\(∀y∈xs,sh<=y.1/\y.1<=100000)/\IY n at_ SS/\DV=Gb DC a SS/\(ms at_).foldl (λS x=>(BP sh (x.1+1)).foldl (λS part=>D1 n S at_ (part,x.2) (AH part x.2)) S) I1=xs.foldl (λS x=>(BP sh (x.1+1)).foldl (λS part=>D1 n S at_ (part,x.2) (AH part x.2)) S) SS/\m=([("octets",some (.bytes o)),("start",some (.int start)),("finder",some (.ref x)),("most",some (.int mo)),("price",some p),("enough",some .none),("trail",some (.ref t)),("ways",some (.ref a.x)),("at",some (.int at_)),("place",some (.int ((start:Int)+at_))),("matches",some (.lst ((ms at_).map pv))),("length",o3),("distance",o4),("part",o5),("taken",o6)]:Lc);refine EO Mk (.lst _ _) (λZ Z Z Z Z=>trivial) (λZ Z Z=>trivial) ((D_ (ms at_) I1 _ _ _ (Cc rfl AB6 VA rfl rfl rfl))) ?_ ?_
  ·intro mv AN DV m Am;refine GK Am λxs SS o3 o4 o5 As=>Em As λBo Dd O4 CX hf C3=>?_;clear As Am;subst CX;subst C3;cases xs with
   |nil=>exact cN Bo
   |cons y xs=>
    simp only[By,Dj]at Bo;obtain⟨rfl,rfl⟩:=Bo;have hy:=Dd y (.head _);have SwS:=Mw.to O4.l1 O4.l2;obtain tS:JF (Gb DC a SS) t d x sh W St (start+at_):=⟨by apply AG (SQ tw);exact S3.inst,S3.nt,F.grow DC _ _ (λb hb=>SQ λz=>Ww b z hb) S3.st⟩;rw[DW]at hf;apply Be;intro mz Kz;refine AA<|Ax tS.ii jN rfl<|AA<|J7<|AA ?_
    let tD:List MV->Hp->Lc->Prop:=λAN DV m=>∃(ps:List Int)(Mu:WS)(o5:Option MV),AN=ps.map MV.int/\(∀z∈ps,0<=z)/\IY n at_ Mu/\DV=Gb DC a Mu/\(BP sh (y.1+1)).foldl (λS part=>D1 n S at_ (part,y.2) (AH part y.2)) SS=ps.foldl (λS part=>D1 n S at_ (part,y.2) (AH part y.2)) Mu/\m=([("octets",some (.bytes o)),("start",some (.int start)),("finder",some (.ref x)),("most",some (.int mo)),("price",some p),("enough",some .none),("trail",some (.ref t)),("ways",some (.ref a.x)),("at",some (.int at_)),("place",some (.int ((start:Int)+at_))),("matches",some (.lst ((ms at_).map pv))),("length",some (.int y.1)),("distance",some (.int y.2)),("part",o5),("taken",o6)]:Lc);refine EO tD (.D2 _ _ _ (Aw 0x112010ff4f2f4f0f251010219 rfl Uu) (Bd 0x11130ff4f2f4f0f201118f6faf0f21111101179 rfl hy) (Bd 0x10114120130ff4f2f4f0f25118f6faf0f20110111179110219 rfl Uu hy) (Bd 0x11030ff4f2f4f0f212013118f6faf0f20110111179 rfl hy)) (λZ Z Z Z Z=>trivial) (λZ Z Z=>trivial) ((BK _ SS _ (Cc rfl (λz hz=>by have:=(PL hz).1;exact Bd 0x111301021011119110219 rfl Uu this) O4 rfl rfl rfl))) ?_ ?_
    ·intro mv AN DV m Am;refine A1 Am λps Mu o5 As=>Em As λBo NH O5 CX Q7 C3=>?_;clear As Am;subst CX;subst C3;cases ps with
     |nil=>exact cN Bo
     |cons z ps=>
      simp only[By,Dj]at Bo;obtain⟨rfl,rfl⟩:=Bo;have f':=Mw.to O5.l1 O5.l2;rw[DW]at Q7;apply Be;intro mz Kz;refine AA<|Bw f'.ii (by decide) jh<|AA<|Bw (.inl ep) n2 g2<|AA<|w_up (j:=3) rfl (P2 _ _ _ _ ?_)
      apply AA;obtain⟨b1,Hf⟩:∃b,Mu.1.getD at_ none=some b:=Tx.mp (O5.some at_ (BX _) (KC hg));have lL:0<=BH z:=by have:=o7 (NH z (.head _));exact LA this
      refine qI (at_:=at_) (st:=(z,y.2)) rfl f' (Wh tl hn) (KC hg) lL Hf<|AD (Ak8 Mw)<|(BK ps _ _ (Cc rfl (λu hu=>NH u (.tail _ hu)) (VT O5 lL) rfl Q7 rfl))
    ·intro DV m Am;refine A1 Am λps Mu o5 As=>Em As λBo NH O5 CX Q7 C3=>?_;clear As Am;subst CX;subst C3;cases ps with
     |cons z ps=>exact nC Bo
     |nil=>
      rw[KO]at Q7;rw[Q7]at hf;exact(D_ xs Mu _ _ _ (Cc rfl (λu hu=>Dd u (.tail _ hu)) O5 rfl hf rfl))
  ·intro DV m Am;refine GK Am λxs SS o3 o4 o5 As=>Em As λBo Dd O4 CX hf C3=>?_;clear As Am;subst CX;subst C3;cases xs with
   |cons y xs=>exact nC Bo
   |nil=>
    rw[KO]at hf;apply Be;intro mz Kz;refine AA (De (AA ?_));refine⟨(k-1),⟨(AQ 0x1011051000050012004220810839200010349 rfl hk hg),(ip (at_+1) (start+at_) _ _ _ _ _ _ (Cc (rA hk hg) (AM 0x1112103003100030 rfl) ⟨by apply AG (SQ tw);exact S3.inst,S3.nt,F.grow DC _ _ (λb hb=>SQ λz=>Ww b z hb) S3.st⟩ ?_ (λb hb kI kJ=>?_) rfl))⟩⟩
    ·refine AD (step SS hf) ?_;exact Mw.to O4.l1 O4.l2
    ·rw[SQ kJ,jC b hb kI,fr b hb kI kJ]
 ·apply AA;have:at_=n:=by exact AQ 0x110041001001710004108008369102000349 rfl hk hg
  (try clear Sw;subst this);refine Bw T7.ii (by decide) y8<|AA<|Ai4 T7 (Wh tl hn) ok<|q AE λb hb NF=>?_
  have:=dn b NF;rw[fr b hb this.1 this.2,base b NF]
theorem AE3{ns:List Int}(hz:ns.length<=1000)(q:∀b AE,¬foot V b->Gl AE b->(∀a,a≠b->AE a=V a)->Q (.ref b) AE):Ag w h₀ 1 599 [.lst (ns.map .int)] V Q:=by
 refine Bg ["script"] ["digits","state","cell"] [] [] [] (by kernel_rfl) (by kernel_rfl)<|AA<|Ng BY (by simp;exact Ic hz) (λi e=>(nS e)) (λi e=>(by(obtain zI:=Au e;subst zI);decide)) ?_
 refine AD (show A3 (ns.map MV.int) none (some 30)=(A3 ns none (some 30)).map MV.int by unfold A3;rw[Fc,fR,Tf])<|AA ?_
 let Dy:List MV->Hp->Lc->Prop:=λAN AE m=>AE=V/\∃(xs:List Int)(x y:Int)(oc:Option MV),AN=xs.map MV.int/\0<=x/\0<=y/\y<2147483647/\m=([("script",some (.lst (ns.map .int))),("digits",some (.int x)),("state",some (.int y)),("cell",oc)]:Lc);refine EO Dy (.lst _ _) (λZ Z Z Z Z=>trivial) (λZ Z Z=>trivial) (HW rfl (Ar (A3 ns none (some 30)) 0 1 none (An rfl (EJ 17834017 rfl) (EJ 17899553 rfl) (EJ 0x117ffffffffffffff2123 rfl) rfl))) ?_ ?_
 ·intro mv AN AE m Am;obtain Hb:=Am.1;obtain As:=Am.2;refine Bc As λxs x y oc Ck=>?_;obtain hr:=Ck.1;obtain h0:=Ck.2.1;obtain h1:=Ck.2.2.1;obtain h2:=Ck.2.2.2.1;obtain Hc:=Ck.2.2.2.2;clear Ck As Am;subst Hb;subst Hc;cases xs with
  |nil=>exact cN hr
  |cons z xs=>
   simp only[By,Dj]at hr;obtain⟨rfl,rfl⟩:=hr;apply Be;intro mz Kz;refine AA<|w_pow (by decide) (by decide) (by decide)<|AA ?_
   obtain iP:(10:Int)^(KN 18)=1000000000000000000:=by decide
   refine AD iP<|BW (λhg=>?_) (λhg=>?_)
   ·refine AA<|w_pow (by decide) (by decide) (by decide) ?_
    refine AD iP<|(HW rfl (Ar xs _ y _ (An rfl (Bd 0x1113def0fbf6fbf3faf7f6f4f0f0f0f0f211013402111def0fbf6fbf3faf7f6f4f0f0f0f0f219010219 rfl h0 hg) h1 h2 rfl)))
   ·refine AA<|w_mul (dH h1) (qu h2)<|AA<|w_mod (by decide) ?_
    obtain f1:=Int.fmod_nonneg_of_pos (y*1009+z) (b:=2147483629) (by decide);obtain f2:=XB (y*1009+z) (b:=2147483629) (by decide);exact(HW rfl (Ar xs x _ _ (An rfl h0 (Aw 0x11201123021010219 rfl f1) (Aw 0x1127ffffffffffffff20112337ffffffffffefdf20139 rfl f2) rfl)))
 ·intro AE m Am;obtain Hb:=Am.1;obtain As:=Am.2;refine Bc As λxs x y oc Ck=>?_;obtain hr:=Ck.1;obtain h0:=Ck.2.1;obtain h1:=Ck.2.2.1;obtain h2:=Ck.2.2.2.1;obtain Hc:=Ck.2.2.2.2;clear Ck As Am;subst Hb;subst Hc;apply Be;intro mz Kz;refine AA<|JI<|λb nb=>q b _ nb (Aj x y (BR AS h0 h1 h2)) λa ha=>AL ha
structure HV(le wi mo:Int):Prop where
 l1:1<=le
 l3:le<=3
 w1:1<=wi
 m2:2<=mo
noncomputable def VJ(Ay:Nat)(AP:List Int)(le wi mo:Int)(start:Nat)(k:Nat):List (Int×Int):=
 (MR Ay AP le wi (AP.length+1) (start+k) mo).filter λy=>decide (max (Hs Ay le) 2<=y.1)
noncomputable def EN(lit:Int->Int)(AH:Int->Int->Int)(Ay:Nat)(AF AP:List Int)(start:Nat)(le wi mo:Int):List (Int×Int):=
 Zi lit AH AF start (max (Hs Ay le) 2) (VJ Ay AP le wi mo start)
structure LQ(lit:Int->Int)(AH:Int->Int->Int)(Ay:Nat)(AF AP:List Int)(start:Nat)(le wi mo:Int):Prop where
 len:∀k,(MR Ay AP le wi (AP.length+1) k mo).length<=2000/\∀y∈MR Ay AP le wi (AP.length+1) k mo,y.1<=100000
 ok:WC (AF.length-start) (Ef lit AH AF start (max (Hs Ay le) 2) (AF.length-start) (VJ Ay AP le wi mo start) (AF.length-start))
theorem RV{b AF AP start le wi mo p lit AH}(hb:Gl V b)(T:Txt AF)(Ts:Txt AP)(hN:AP.length<=999)(hs:start<=AF.length)(ht:AF.length<=AP.length)(H:HV le wi mo)
 (P:KS w h₀ p lit AH) (ok:∀Ay,Ay<=(if le<3 then 2 else 1)->LQ lit AH Ay AF AP start le wi mo)
 (q:∀Ay AE,Ay<=(if le<3 then 2 else 1)->Fp b V AE->Q (.lst ((EN lit AH Ay AF AP start le wi mo).map pv)) AE):
 Ag w h₀ 13 625 [.ref b,.bytes AF,.bytes AP,.int start,.lst [.int le,.int wi,.int mo],p] V Q:=by
 obtain⟨l1,l3,w1,m2⟩:=H
 refine Ag.cv<|Bg ["box","text","seen","start","shape","price"] ["shortest","window","most","way"] ["_law_take","least","finder_for","len"] [] [] (by kernel_rfl) (by kernel_rfl) ?_
 refine AA<|CU<|AA<|BW (λh3=>?_) (λh3=>?_)
 ·refine AA<|DM hb (by decide) (by decide) λd CC d0 d1 B1=>?_
  have hw:d.toNat<=2:=by exact Aw 0x10031013220190320139 rfl d1
  have RC:d.toNat<=(if le<3 then 2 else 1):=by split<;>exact hw
  refine AA<|CR (x:=.str (bU d.toNat)) BY d0 (Su d1) (by
   have:d=0\/d=1\/d=2:=by exact dc d0 d1
   rcases this with rfl|rfl|rfl<;>rfl) ?_
  refine AA<|FL (Ah 0x1120ff4f2f4f0f20003ef7f20009 rfl hN)<|AA<|iz Ts hN hw l1 (Aw 4824794750124345 rfl h3) w1 Py (Ah 0x1123ef9f212008313ef7f20009 rfl hN) λx cls W St Bf F S0 sub nw=>AA ?_
  have K:=ok d.toNat RC
  have ZE:Hs d.toNat le<=100:=by unfold Hs;split<;>omega
  refine mA F S0 T hs ht (Aw 4820332544336409 rfl m2) P K.len ZE K.ok λDC fr=>.sub (V:=CC) (λa o' e=>?_) (.done (q d.toNat CC RC B1));have e2:=sub a o' e;refine AG (fr a (λz=>by rw[nw a z]at e;exact nS e) (by rw[e2];simp))<|e2
 ·refine AA<|DM hb (by decide) (by decide) λd CC d0 d1 B1=>?_
  have hw:d.toNat<=2:=by exact Aw 0x10031013220190220139 rfl d1
  have RC:d.toNat<=(if le<3 then 2 else 1):=by split<;>omega
  refine AA<|CR (x:=.str (bU d.toNat)) BY d0 (de d1) (by
   have:d=0\/d=1\/d=2:=by exact Aw 0x10131013101310131100411004101041010422015120158020158220139010219 rfl d0 d1
   rcases this with rfl|rfl|rfl<;>rfl) ?_
  refine AA<|FL (Ah 0x1120ff4f2f4f0f20003ef7f20009 rfl hN)<|AA<|iz Ts hN hw l1 (Aw 4824794750124313 rfl l3) w1 Py (Ah 0x1123ef9f212008313ef7f20009 rfl hN) λx cls W St Bf F S0 sub nw=>AA ?_
  have K:=ok d.toNat RC;have ZE:Hs d.toNat le<=100:=by unfold Hs;split<;>omega
  refine mA F S0 T hs ht (Aw 4820332544336409 rfl m2) P K.len ZE K.ok λDC fr=>.sub (V:=CC) (λa o' e=>?_) (.done (q d.toNat CC RC B1));have e2:=sub a o' e;refine AG (fr a (λz=>by rw[nw a z]at e;exact nS e) (by rw[e2];simp))<|e2
noncomputable def stepOk(AF:List Int)(le wi mo:Int)(pl:Int)(x:Int×Int):Bool:=
 if x.1=0 then decide (A3 AF (some pl) (some (pl+1))=[x.2])
 else decide (max 2 le<=x.1/\x.1<=mo/\1<=x.2/\x.2<=min pl wi/\A3 AF (some (pl-x.2)) (some (pl-x.2+x.1))=A3 AF (some pl) (some (pl+x.1)))
noncomputable def Gg(AF:List Int)(le wi mo:Int):List (Int×Int)->List Int->Int->List Int
 |[],Az,pl=>if pl=AF.length then Az++[pl]else[]
 |x::r,Az,pl=>if stepOk AF le wi mo pl x=true then Gg AF le wi mo r (Az++[pl]) (pl+max 1 x.1)else[]
theorem UE:(∀(AF:List Int)(le wi mo:Int)(x:List Int)(BE:Int),Gg AF le wi mo [] x BE=if BE=(↑AF.length:Int)then x++[BE]else[])/\(∀(AF:List Int)(le wi mo:Int)(x:List Int)(BE:Int)(Cf:Int×Int)(r:List (Int×Int)),Gg AF le wi mo (Cf::r) x BE=if stepOk AF le wi mo BE Cf=TC then Gg AF le wi mo r (x++[BE]) (BE+To 1 Cf.fst)else[]):=⟨by intros;rfl,by intros;rfl⟩
theorem O0(l:List Int):l.map MV.int=(l.map IP.i).map IP.mv:=by rw[Fd];rfl
theorem wy(l r:List Int):decide (l.map IP.i=r.map IP.i)=decide (l=r):=by
 have:(l.map IP.i=r.map IP.i)↔l=r:=by
  constructor
  ·intro h;exact(tf λa b e=>by injection e).mp h
  ·intro h;rw[h]
 simp only[this]
theorem l9:((Az++[pl]).map MV.int)[((-1:Int)+((Az++[pl]).map MV.int).length).toNat]? =some (.int pl):=by
 obtain this:((-1:Int)+((Az++[pl]).map MV.int).length).toNat=Az.length:=by simp;exact Ah 0x112110310210200120083125394 rfl
 refine AD this ?_;simp
theorem Ze{AF:List Int}{st:Int}{le wi mo:Int}(T:Txt AF)(h0:0<=st)(hz:steps.length<=1000)(hb:∀x∈steps,x.1<=1000000)(Bu:st<=1000)
 (q:Q (.lst ((Gg AF le wi mo steps [] st).map .int)) V):Ag w h₀ 1 632 [.lst (steps.map pv),.bytes AF,.int st,.lst [.int le,.int wi,.int mo]] V Q:=by
 obtain tl:=T.len;refine Ag.cv<|Bg ["steps","text","start","shape"] ["shortest","window","most","found","first","second","place","right"] ["max","min","list","len"] [] [] (by kernel_rfl) (by kernel_rfl) ?_
 refine AA<|JI<|λf nf=>?_
 obtain CI:=CZ nf;apply AA;let Dy:List MV->Hp->Lc->Prop:=λAN AE m=>∃(xs:List (Int×Int))(Az:List Int)(pl:Int)(o1 o2 o3 o4:Option MV),AN=xs.map pv/\(∀x∈xs,x.1<=1000000)/\0<=pl/\Az.length+xs.length<=1000/\Gg AF le wi mo steps [] st=Gg AF le wi mo xs Az pl/\AE=V.set f (.list ((Az++[pl]).map .int))/\m=([("steps",some (.lst (steps.map pv))),("text",some (.bytes AF)),("start",some (.int st)),("shape",some (.lst [.int le,.int wi,.int mo])),("shortest",some (.int le)),("window",some (.int wi)),("most",some (.int mo)),("found",some (.ref f)),("first",o1),("second",o2),("place",o3),("right",o4)]:Lc);refine EO Dy (.lst _ _) (λZ Z Z Z Z=>trivial) (λZ Z Z=>trivial) ((Gi steps ([]) st _ _ _ _ (Dz rfl hb h0 (by simp;exact hz) rfl rfl rfl))) ?_ ?_
 ·intro mv AN AE m Am;refine LY Am λxs Az pl o1 o2 o3 o4 As=>En As λhr Dd I7 hl hd CX C3=>?_;clear As Am;subst CX;subst C3;cases xs with
  |nil=>exact cN hr
  |cons x xs=>
   simp only[By,Dj]at hr;obtain⟨rfl,rfl⟩:=hr;simp only[UE]at hd;apply Be;intro mz Kz;refine AA<|V7 (x:=.int pl) (Bi AS) (by decide) (by simp;exact Py) (by decide) l9<|AA<|F6 (λhe=>?_) (λhe=>?_)
   ·refine AA<|IW (Ic tl) (λi e=>(by(obtain zI:=Au e;subst zI);exact I7)) (λi e=>(by(obtain zI:=Au e;subst zI);exact Aw 0x11212013021010219 rfl I7)) ?_
    refine AA<|Ah5 (by obtain this:=oD (l:=AF) I7 (show(0:Int)<=1 by decide);simp at this;exact Ah 0x11218f6faf0f2000120009 rfl this) ?_
    refine AA<|CU<|AA<|V8 ((A3 AF (some pl) (some (pl+1))).map IP.i) ([x.2].map IP.i) (.inl (O0 _▸rfl)) (.inl rfl) ?_
    refine AD (wy ..) ?_;obtain Jm:stepOk AF le wi mo pl x=decide (A3 AF (some pl) (some (pl+1))=[x.2]):=by unfold stepOk;exact if_pos he
    refine AD (A0 Jm)<|AA<|oy (λhk=>?_) (λhk=>?_)
    ·refine AA<|CU ?_
     rw[hk,if_neg (by decide)]at hd;refine .sub (D6 CI) (.done ?_);rw[hd]at q;exact q
    ·rw[hk,if_pos rfl]at hd;refine AA<|FN (Bi AS)<|AA<|Kx<|AA<|FK AS (by simp at hl|-;exact AM 0x1011418f6f9fff20003ef8f21210300309 rfl hl) ?_
     refine AD set_set<|(Gi xs (Az++[pl]) _ _ _ _ _ (Dz rfl (λy hy=>Dd y (.tail _ hy)) (by exact Bd 79596966074604551716433101337 (by kernel_rfl) I7) (by simp at hl|-;exact AM 5832567079457066629084943947249719706377 (by kernel_rfl) hl) hd (by simp) rfl))
   ·refine AA<|Kx<|AA ?_
    obtain Jm:stepOk AF le wi mo pl x=decide (max 2 le<=x.1/\x.1<=mo/\1<=x.2/\x.2<=min pl wi/\A3 AF (some (pl-x.2)) (some (pl-x.2+x.1))=A3 AF (some pl) (some (pl+x.1))):=by unfold stepOk;exact if_neg he
    refine BW (λa1=>?_) (λa1=>?_)
    ·refine AA<|BW (λa2=>?_) (λa2=>?_)
     ·refine AA<|BW (λa3=>?_) (λa3=>?_)
      ·refine AA<|Ky<|AA<|BW (λa4=>?_) (λa4=>?_)
       ·refine AA<|IW (Ic tl) (λi e=>(by(obtain zI:=Au e;subst zI);exact DR 0x11131103110140212101a1119 rfl a4)) (λi e=>(by(obtain zI:=Au e;subst zI);exact Lx 0x111105110105111115110115211101430213101a1119214122b19 rfl a1 a4)) ?_
        refine AA<|IW (Ic tl) (λi e=>(by(obtain zI:=Au e;subst zI);exact I7)) (λi e=>(by(obtain zI:=Au e;subst zI);exact Lx 0x1111106110110611111161101116110130213101a2119211219114122b19 rfl a1 a3 a4)) ?_
        refine AA<|Ai5<|AA ?_
        have IF:stepOk AF le wi mo pl x=(A3 AF (some (pl-x.2)) (some (pl-x.2+x.1))==A3 AF (some pl) (some (pl+x.1))):=by
         apply AG Jm;by_cases z:A3 AF (some (pl-x.2)) (some (pl-x.2+x.1))=A3 AF (some pl) (some (pl+x.1))
         ·simp[z];exact l06 0x10100000810110000810010007100010071000001081000001181011000081010000081001000710001007100000108100000118101000008101100008100100071000100710000011810000010810110000810100000810010007100010071000001181000001085141a311311217211117110122b175141a3119311219211119110122b19 rfl a1 a2 a3 a4
         ·simp[z]
        refine AD (A0 IF)<|oy (λhk=>?_) (λhk=>?_)
        ·refine AA<|CU ?_
         rw[hk,if_neg (by decide)]at hd;refine .sub (D6 CI) (.done ?_);rw[hd]at q;exact q
        ·rw[hk,if_pos rfl]at hd;refine AA<|FN (Bi AS)<|AA<|Kx<|AA<|FK AS (by simp at hl|-;exact AM 0x1011418f6f9fff20003ef8f21210300309 rfl hl) ?_
         refine AD set_set<|(Gi xs (Az++[pl]) _ _ _ _ _ (Dz rfl (λy hy=>Dd y (.tail _ hy)) (by exact Bd 79596966074604551716433101337 (by kernel_rfl) I7) (by simp at hl|-;exact AM 5832567079457066629084943947249719706377 (by kernel_rfl) hl) hd (by simp) rfl))
       ·refine AA (IT (AA ?_));obtain NK:stepOk AF le wi mo pl x=false:=by apply AG Jm;exact decide_eq_false (λz=>a4 z.2.2.2.1)
        apply CU;rw[NK,if_neg (by decide)]at hd;refine .sub (D6 CI) (.done ?_);rw[hd]at q;exact q
      ·refine AA (De (AA ?_));obtain NK:stepOk AF le wi mo pl x=false:=by apply AG Jm;exact decide_eq_false (λz=>a3 z.2.2.1)
       refine AA<|CU ?_
       rw[NK,if_neg (by decide)]at hd;refine .sub (D6 CI) (.done ?_);rw[hd]at q;exact q
     ·refine AA (De (AA ?_));obtain NK:stepOk AF le wi mo pl x=false:=by apply AG Jm;exact decide_eq_false (λz=>a2 z.2.1)
      refine AA<|CU ?_
      rw[NK,if_neg (by decide)]at hd;refine .sub (D6 CI) (.done ?_);rw[hd]at q;exact q
    ·refine AA (De (AA ?_));obtain NK:stepOk AF le wi mo pl x=false:=by apply AG Jm;exact decide_eq_false (λz=>a1 z.1)
     refine AA<|IT<|AA<|CU ?_
     rw[NK,if_neg (by decide)]at hd;refine .sub (D6 CI) (.done ?_);rw[hd]at q;exact q
 ·intro AE m Am;refine LY Am λxs Az pl o1 o2 o3 o4 As=>En As λhr Dd I7 hl hd CX C3=>?_;clear As Am;subst CX;subst C3;cases xs with
  |cons x xs=>exact nC hr
  |nil=>
   simp only[UE]at hd;apply Be;intro mz Kz;refine AA<|V7 (x:=.int pl) (Bi AS) (by decide) (by simp;exact Py) (by decide) l9<|AA<|FL (EP tl)<|AA<|F6 (λhe=>?_) (λhe=>?_)
   ·skip;rw[if_pos he]at hd;refine .list AS (.done ?_);refine AD (Gh nf)<|AD (A0 hd) ?_;exact q
   ·refine AA<|CU ?_
    rw[if_neg he]at hd;refine .sub (D6 CI) (.done ?_);rw[hd]at q;exact q
noncomputable def Fw(AF:List Int)(pl:Nat)(wi:Int)(len:Int):Nat->Int->Int
 |0,bk=>bk
 |f+1,bk=>if bk<=min (pl:Int) wi/\A3 AF (some ((pl:Int)-bk)) (some ((pl:Int)-bk+len))≠A3 AF (some (pl:Int)) (some ((pl:Int)+len))then Fw AF pl wi len f (bk+1)else bk
theorem UC:(∀(AF:List Int)(pl:Nat)(wi len x:Int),Fw AF pl wi len 0 x=x)/\(∀(AF:List Int)(pl:Nat)(wi len x:Int)(f:Nat),Fw AF pl wi len (f+1) x=if x<=DO (↑pl:Int) wi/\A3 AF (Im ((↑pl:Int)-x)) (Im ((↑pl:Int)-x+len))≠A3 AF (Im (↑pl:Int)) (Im ((↑pl:Int)+len))then Fw AF pl wi len f (x+1)else x):=⟨by intros;rfl,by intros;rfl⟩
noncomputable def Jx(Az:List (Int×Int))(len bk:Int):List (Int×Int):=match Az.getLast? with
 |none=>[(len,bk)]
 |some z=>if z.2=bk then Az.dropLast++[(len,bk)]else Az++[(len,bk)]
noncomputable def JB(AF:List Int)(pl:Nat)(wi:Int):List Int->List (Int×Int)->Int->List (Int×Int)
 |[],Az,_=>Az
 |len::r,Az,bk=>
  if min (pl:Int) wi<Fw AF pl wi len (pl+1) bk then Az
  else JB AF pl wi r (Jx Az len (Fw AF pl wi len (pl+1) bk)) (Fw AF pl wi len (pl+1) bk)
theorem aW:(∀(AF:List Int)(pl:Nat)(wi:Int)(x:List (Int×Int))(BE:Int),JB AF pl wi [] x BE=x)/\(∀(AF:List Int)(pl:Nat)(wi:Int)(x:List (Int×Int))(BE len:Int)(r:List Int),JB AF pl wi (len::r) x BE=if DO (↑pl:Int) wi<Fw AF pl wi len (pl+1) BE then x else JB AF pl wi r (Jx x len (Fw AF pl wi len (pl+1) BE)) (Fw AF pl wi len (pl+1) BE)):=⟨by intros;rfl,by intros;rfl⟩
theorem oE(Az)(len bk):(Jx Az len bk).length<=Az.length+1:=by
 unfold Jx;cases Az.getLast? with
 |none=>simp
 |some z=>simp only;split<;>simp<;>omega
theorem l_:((Az++[z]).map pv)[((-1:Int)+((Az++[z]).map pv).length).toNat]? =some (pv z):=by
 obtain this:((-1:Int)+((Az++[z]).map pv).length).toNat=Az.length:=by simp;exact Ah 0x112110310210200120083125394 rfl
 rw[this];simp
theorem AF1(T:Txt AF)(hp:pl<=AF.length)(h2:2<=mo)(hle:le<=100)(kY:0<=le)
 (q:Q (.lst ((JB AF pl wi (BP (max 2 le) (min mo ((AF.length:Int)-pl)+1)) [] 1).map pv)) V):Ag w h₀ 1 639 [.bytes AF,.int (pl:Nat),.lst [.int le,.int wi,.int mo]] V Q:=by
 obtain tl:=T.len;refine Ag.cv<|Bg ["text","place","shape"] ["shortest","window","most","found","back","length"] ["max","min","range","len"] [] [] (by kernel_rfl) (by kernel_rfl)<|AA<|JI ?_
 intro f nf;obtain CI:=CZ nf;apply AA;generalize NB:BP (max 2 le) (min mo ((AF.length:Int)-pl)+1)=all at q;obtain IC:∀x∈all,2<=x/\x<=AF.length:=λx hx=>by
  rw[<-NB]at hx;obtain this:=PL hx;exact O7 0x1011000710010510111007100105101100071001151011100710011500801101221712108008421a3013011122b179 rfl this
 refine Kx<|AA<|FL (EP tl)<|AA<|Ky<|AA<|J7<|AA ?_
 let Dy:List MV->Hp->Lc->Prop:=λAN AE m=>∃(xs:List Int)(Az:List (Int×Int))(bk:Int)(ol:Option MV),AN=xs.map MV.int/\(∀x∈xs,x∈all)/\1<=bk/\JB AF pl wi all [] 1=JB AF pl wi xs Az bk/\Az.length+xs.length<=1001/\AE=V.set f (.list (Az.map pv))/\m=([("text",some (.bytes AF)),("place",some (.int pl)),("shape",some (.lst [.int le,.int wi,.int mo])),("shortest",some (.int le)),("window",some (.int wi)),("most",some (.int mo)),("found",some (.ref f)),("back",some (.int bk)),("length",ol)]:Lc);refine EO Dy (.D2 _ _ _ (Aw 0x1021120122b0ff4f2f4f0f251 rfl) (Aw 0x100310130ff4f2f4f0f20122b164f20119 rfl hle) (Bm 0x100141010412108008401a30ff4f2f4f0f251012219001009 rfl hp h2) (Bm 0x1010151011150ff4f2f4f0f212108008401a313ef8f20009 rfl tl)) (λZ Z Z Z Z=>trivial) (λZ Z Z=>trivial) (Ar all ([]) 1 none (Dz (AD NB rfl) (λx h=>h) (EJ 17899809 rfl) rfl ?_ rfl rfl)) ?_ ?_
 ·refine AD (A0 NB) ?_;simp[BP];exact D0 0x10100161011016101011610111163ef9f21122b12108008401a3413ef8f20009 rfl tl
 ·intro mv AN AE m Am;refine Bc Am λxs Az bk ol As=>En As λhr Dd Ym hd hl CX C3=>?_;clear As Am;subst CX;subst C3;cases xs with
  |nil=>exact cN hr
  |cons x xs=>
   simp only[By,Dj]at hr;obtain⟨rfl,rfl⟩:=hr;obtain hx:=IC x (Dd x (.head _));apply Be;intro mz Kz;apply AA;simp only[aW]at hd;generalize hBB:Fw AF pl wi x (pl+1) bk=BB at hd;let Mk:Nat->Hp->Lc->Prop:=λn AE m=>∃(b':Int)(fu:Nat),n=fu/\AE=V.set f (.list (Az.map pv))/\BB=Fw AF pl wi x fu b'/\(pl:Int)+2<=b'+fu/\1<=b'/\m=([("text",some (.bytes AF)),("place",some (.int pl)),("shape",some (.lst [.int le,.int wi,.int mo])),("shortest",some (.int le)),("window",some (.int wi)),("most",some (.int mo)),("found",some (.ref f)),("back",some (.int b')),("length",some (.int x))]:Lc);refine J8 Mk (pl+1)
    (Aj bk (pl+1) (Cc rfl rfl hBB.symm (Bp 0x1121200380132200831011219 rfl Ym) Ym rfl)) ?_
   intro n AE m Am;refine Ao Am λb' fu As=>Em As λhnf CX hb kH Hf C3=>?_;clear As Am;subst CX;subst C3;subst hnf;apply Be;intro mz Kz;refine AA<|Ky<|AA<|BW (λhg=>?_) (λhg=>?_)
   ·refine AA<|IW (Ic tl) (λi e=>(by(obtain zI:=Au e;subst zI);exact Dv 0x1113110301008402111008a0119 rfl hg)) (λi e=>(by(obtain zI:=Au e;subst zI);exact O7 0x11101511001511010084302121008a01191081111122179 rfl hx hg))<|AA<|IW (Ic tl) (λi e=>(by(obtain zI:=Au e;subst zI);exact ER)) (λi e=>(by(obtain zI:=Au e;subst zI);exact Bm 0x110140100830211080110122179 rfl hx))<|AA<|Ai7<|AA ?_
    obtain⟨n,rfl⟩:∃j,n=j+1:=⟨n-1,by exact D0 0x11114110005100005100005110141100051000051000051212004300411108a011900801322108319 rfl kH hg⟩;simp only[UC]at hb;refine Vr (λCe=>?_) (λCe=>?_)
    ·skip;rw[if_pos ⟨hg,by simpa using Ce⟩]at hb;exact⟨n,⟨Ie,(Aj (b'+1) n (Cc rfl rfl hb (Bm 0x112108120133220083112103801322008319 rfl kH) (Aw 0x11212013121011219 rfl Hf) rfl))⟩⟩
    ·rw[if_neg (λz=>by obtain this:=z.2;simp at Ce;exact this Ce)]at hb;have hB:=hb;refine AA<|Ky<|AA<|BW (λHh=>?_) (λHh=>?_)
     ·skip;rw[hB,if_pos Hh]at hd;refine .list AS (.done ?_);refine AD (Gh nf)<|AD (A0 hd) ?_;exact q
     ·rw[hB,if_neg Hh]at hd;obtain aN:=oE Az x b';rcases QB Az with rfl|⟨dd,z,rfl⟩
      ·refine AA<|CU<|AA<|J9 [] [] (Bi AS) (.inl rfl)<|AA (De (AA ?_))
       refine De<|AA<|FN (Bi AS)<|AA<|FK AS (by simp)<|AD set_set<|(Ar xs ([(x,b')]) b' _ (Dz rfl (λu hu=>Dd u (.tail _ hu)) (Hf) hd (by simp at hl|-;exact Ah 0x1123ef9f20012303ef8f20009 rfl hl) rfl rfl))
      ·have hz:Jx (dd.concat z) x b'=if z.2=b' then dd++[(x,b')]else dd++[z]++[(x,b')]:=by
        unfold Jx;simp[Ml]
       rw[Ml]at hl hz hd aN|-;rw[hz]at hd;refine AA<|CU<|AA<|J9 ((dd++[z]).map λu=>IP.p u.1 u.2) [] (Bi (by refine AG AS<|AD Fd ?_;rfl)) (.inl rfl) ?_
       refine AA<|GU (λZ=>?_) (λh=>absurd h (by simp))
       refine AA<|V7 (x:=pv z) (Bi AS) (by decide) (by simp;exact Py) (by decide) l_<|AA<|J4 (j:=1) rfl (by decide) (by decide) rfl<|AA<|F6 (λNO=>?_) (λNO=>?_)
       ·rw[if_pos NO]at hd;refine AA<|qE (Bi AS)<|AA<|qG (l:=dd.map pv) (x:=pv z) (by apply AG AS;simp) (by simp at hl|-;exact AM 0x1011418f6faf0f20003ef9f21210312003309 rfl hl) ?_
        refine AD set_set<|AA<|FN (Bi AS)<|AA<|FK AS (by simp at hl|-;exact AM 0x1011418f6faf0f20003ef9f21210312003309 rfl hl)<|AD set_set<|(Ar xs (dd++[(x,b')]) b' _ (Dz rfl (λu hu=>Dd u (.tail _ hu)) (Hf) hd (by simp at hl|-;exact AM 0x1123ef9f21012003303ef9f21210312003309 rfl hl) (by simp) rfl))
       ·rw[if_neg NO]at hd;refine AA<|FN (Bi AS)<|AA<|FK AS (by simp at hl|-;exact AM 0x1011418f6f9fff20003ef9f21210312003309 rfl hl)<|AD set_set<|(Ar xs (dd++[z]++[(x,b')]) b' _ (Dz rfl (λu hu=>Dd u (.tail _ hu)) (Hf) hd (by simp at hl|-;exact AM 0x1123ef9f21022003303ef9f21210312003309 rfl hl) (by simp) rfl))
   ·have hB:BB=b':=by
     apply AG hb;cases n with
     |zero=>rfl
     |succ n=>simp only[UC];exact AG (if_neg (λz=>hg z.1)) rfl
    refine AA (De (AA ?_));refine Ky<|AA<|BW (λHh=>?_) (λHh=>?_)
    ·skip;rw[hB,if_pos Hh]at hd;refine .list AS (.done ?_);refine AD (Gh nf)<|AD (A0 hd) ?_;exact q
    ·rw[hB,if_neg Hh]at hd;obtain aN:=oE Az x b';rcases QB Az with rfl|⟨dd,z,rfl⟩
     ·refine AA<|CU<|AA<|J9 [] [] (Bi AS) (.inl rfl)<|AA (De (AA ?_))
      refine De<|AA<|FN (Bi AS)<|AA<|FK AS (by simp)<|AD set_set<|(Ar xs ([(x,b')]) b' _ (Dz rfl (λu hu=>Dd u (.tail _ hu)) (Hf) hd (by simp at hl|-;exact D0 0x101041110411104101043ef9f20012301101108a36901108a11169 rfl hg Hh) rfl rfl))
     ·have hz:Jx (dd.concat z) x b'=if z.2=b' then dd++[(x,b')]else dd++[z]++[(x,b')]:=by
       unfold Jx;simp[Ml]
      rw[Ml]at hl hz hd aN|-;rw[hz]at hd;refine AA<|CU<|AA<|J9 ((dd++[z]).map λu=>IP.p u.1 u.2) [] (Bi (by refine AG AS<|AD Fd ?_;rfl)) (.inl rfl) ?_
      refine AA<|GU (λZ=>?_) (λh=>absurd h (by simp))
      refine AA<|V7 (x:=pv z) (Bi AS) (by decide) (by simp;exact Py) (by decide) l_<|AA<|J4 (j:=1) rfl (by decide) (by decide) rfl<|AA<|F6 (λNO=>?_) (λNO=>?_)
      ·rw[if_pos NO]at hd;refine AA<|qE (Bi AS)<|AA<|qG (l:=dd.map pv) (x:=pv z) (by apply AG AS;simp) (by simp at hl|-;exact rD hg Hh) ?_
       refine AD set_set<|AA<|FN (Bi AS)<|AA<|FK AS (by simp at hl|-;exact rD hg Hh)<|AD set_set<|(Ar xs (dd++[(x,b')]) b' _ (Dz rfl (λu hu=>Dd u (.tail _ hu)) (Hf) hd (by simp at hl|-;exact Jo 0x101041110411104101043ef9f21012003301101208a36901208a11169 rfl hg Hh) (by simp) rfl))
      ·rw[if_neg NO]at hd;refine AA<|FN (Bi AS)<|AA<|FK AS (by simp at hl|-;exact D0 0x1010411104111041010418f6f9fff20001101108a36901108a11169 rfl hg Hh)<|AD set_set<|(Ar xs (dd++[z]++[(x,b')]) b' _ (Dz rfl (λu hu=>Dd u (.tail _ hu)) (Hf) hd (by simp at hl|-;exact Jo 0x101041110411104101043ef9f21022003301101208a36901208a11169 rfl hg Hh) (by simp) rfl))
 ·intro AE m Am;refine Bc Am λxs Az bk ol As=>En As λhr Dd Ym hd hl CX C3=>?_;clear As Am;subst CX;subst C3;cases xs with
  |cons x xs=>exact nC hr
  |nil=>
   simp only[aW]at hd;refine .list AS (.done ?_);refine AD (Gh nf)<|AD (A0 hd) ?_;exact q
section
variable{X:Cx}{V:Hp}{m:Lc}{Q:MV->Hp->Lc->Prop}
theorem AC9(ha:Jn V a l):IsT X V m a "dict":=λs D v hs hv=>by
 (refine AI (ha.at hs.rs hv) λp AR=>?_;obtain C4:=AR.1;obtain n1:=AR.2.1;obtain AX:=AR.2.2;refine AI AX λxs A9=>?_;obtain hd:=A9.1;clear A9 AX AR;subst C4);(refine A1 (id hd) λo es ep Ai=>?_;obtain h1:=Ai.1;obtain h2:=Ai.2.1;clear Ai);exact⟨hd.typeIs,λp' e=>by cases e;exact dictOfH_noDict hd _ rfl⟩
theorem AM9(ha:Jn V a l)(q:Q (.int ((Ak l (i,j)).getD d)) V m):Dk X (.builtin "dict.get") [a,.tup [.int i,.int j],.int d] V m Q:=by
 intro s D vs hs hv;match vs,hv with
 |u::r,hv=>
  simp only[BD]at hv;obtain⟨hu,hv⟩:=hv;have hv':AY X.w D s.heap [.tup [.int i,.int j],.int d] r:=hv;(refine Ao (J3 hv') λx y A5=>?_;obtain Ex:=A5.1;obtain hx:=A5.2.1;obtain hy:=A5.2.2;clear A5;subst Ex);(refine AI (ha.at hs.rs hu) λp A2=>?_;obtain K6:=A2.1;obtain n1:=A2.2.1;obtain BM:=A2.2.2;refine AI BM λxs Bx=>?_;obtain hd:=Bx.1;obtain Dd:=Bx.2.1;obtain iv:=Bx.2.2;clear Bx BM A2;subst K6);(refine AI (SF hx) λkp CB=>?_;obtain Nj:=CB.1;obtain nd:=CB.2.1;obtain ks:=CB.2.2;clear CB;subst Nj);simp only[AZ]at hy;obtain⟨t',rfl⟩:=hy;refine vo eh hd.typeIs sL (sH _ _ _) (meetsH_dict_get_default (tk X.w) p kp (by simpa using n1) (.int d t')) ⟨(Vy hs.ok),(Aj _ _ (AO ks hd ?_))⟩;cases h:Ak l (i,j)with
  |some v=>(refine Ao (iv.get h) λad tt e=>?_);refine AD e ?_;rw[h]at q;exact AW.here hs DB q
  |none=>refine AD (iv.none h) ?_;rw[h]at q;exact AW.here hs DB q
 |[],hv=>simp only[BD]at hv
end
section
variable{c:CW}{V:Hp}{K:MV->Hp->Prop}
theorem Ah4(ha:Jn V a l)(q:K (.int ((Ak l (i,j)).getD d)) V):ask c (.bi (.builtin "dict.get") [a,.tup [.int i,.int j],.int d]) V K:=λX m=>AM9 ha ⟨rfl,q⟩
theorem Ah7(ha:Jn V a l)(q:K (.int 3) V):ask c (.Jr "get" a) V K:=.inr (BK _ _ 3 (BR jL rfl (λX m=>AC9 ha) q))
end
noncomputable abbrev C6:=List ((Int×Int)×Int)
noncomputable def Ql(AH:Int->Int->Int)(p:Int)(back:Int)(E:C6)(many:Int):C6:=dput E (p,p+many) (min (AH many back) ((Ak E (p,p+many)).getD (AH many back)))
noncomputable def OV(AH:Int->Int->Int)(sh:Int)(p:Int)(E:C6)(x:Int×Int):C6:=(BP sh (x.1+1)).foldl (Ql AH p x.2) E
noncomputable def OU(lit:Int->Int)(AH:Int->Int->Int)(AF:List Int)(sh:Int)(R:Nat->List (Int×Int))(E:C6)(p:Nat):C6:=
 (R p).foldl (OV AH sh p) (dput E ((p:Int),(p:Int)+1) (lit (AF.getD p 0)))
noncomputable def H_(lit:Int->Int)(AH:Int->Int->Int)(AF:List Int)(sh:Int)(R:Nat->List (Int×Int))(start:Nat):C6:=
 (EV (AF.length-start)).foldl (λE k=>OU lit AH AF sh R E (start+k)) []
noncomputable def ED(AF:List Int)(le wi mo:Int)(p:Nat):List (Int×Int):=JB AF p wi (BP (max 2 le) (min mo ((AF.length:Int)-p)+1)) [] 1
theorem xC:(Ql AH p back E many).length<=E.length+1:=G9
theorem Vg{a b:Nat}:BP (a:Int) b=(EV (b-a)).map λk=>(((a+k:Nat):Int)):=by
 unfold BP;refine AD (show((b:Int)-a).toNat=b-a by exact AM 0x1003100310131103101311031003100310004108008494 rfl)<|OA λk Z=>by exact AM 0x111110003810800835 rfl
theorem AE5{w h₀ V Q AF start le wi mo p lit AH}(P:KS w h₀ p lit AH)(T:Txt AF)(ht:AF.length<=12)(hs:start<=AF.length)(h2:2<=mo)(kY:0<=le)(hle:le<=100)
 (hR:∀p,p<AF.length->(ED AF le wi mo p).length<=12/\∀x∈ED AF le wi mo p,0<=x.1/\x.1<=12)
 (q:Q (.dp (H_ lit AH AF (max 2 le) (ED AF le wi mo) start)) V):Ag w h₀ 4 646 [.bytes AF,.int (start:Nat),.lst [.int le,.int wi,.int mo],p] V Q:=by
 (refine GK P.ok λpc nz oF fl fm AR=>?_;refine En AR λC4 n1 n2 g1 g2 P1 P2=>?_;clear AR;(try clear P;subst C4));refine Ag.cv<|Bg ["text","start","shape","price"] ["edges","place","length","back","many","cost"] ["range","len","_law_rungs","max","min"] [] [] (by kernel_rfl) (by kernel_rfl) ?_
 apply Be;intro mz Kz;refine AA<|Ah2 λf nf=>?_
 obtain CI:=CZ nf;apply AA;let M:C6->Option MV->Option MV->Option MV->Option MV->Option MV->Lc:=λE a b c d e=>[("text",some (.bytes AF)),("start",some (.int start)),("shape",some (.lst [.int le,.int wi,.int mo])),("price",some (.ins pc nz oF)),("edges",some (.ref f)),("place",a),("length",b),("back",c),("many",d),("cost",e)];let I:List MV->Hp->Lc->Prop:=λAN AE m=>∃(ks:List Nat)(E:C6)(a b c d e:Option MV),AN=ks.map (λk=>MV.int ((start+k:Nat):Int))/\(∀k∈ks,start+k<AF.length)/\
  H_ lit AH AF (max 2 le) (ED AF le wi mo) start=ks.foldl (λE k=>OU lit AH AF (max 2 le) (ED AF le wi mo) E (start+k)) E/\E.length+400*ks.length<=4800/\AE=V.set f (.dp E)/\m=M E a b c d e
 refine FL (Ah 0x1120ff4f2f4f0f2000c20009 rfl ht)<|AA<|J7<|AA<|EO I (.D2 _ _ _ Mb (AM 0x11130ff4f2f4f0f20081100009c21009 rfl ht hs) Mb (Ah 0x1120ff4f2f4f0f20081c20009 rfl ht)) (λZ Z Z Z Z=>trivial) (λZ Z Z=>trivial) ((Gi (EV (AF.length-start)) ([]) _ _ _ _ _ (Cc ?_ (λk hk=>by obtain this:=JV.mp hk;exact AQ 0x100105110320100032002041029 rfl this) rfl (by simp;exact AM 0x100319f0f01019f0f512fcf0f21000419f0f60c20009 rfl ht) rfl rfl))) ?_ ?_
 ·refine AD Vg<|AG Fd ?_;rfl
 ·intro mv AN AE m hI;refine LY hI λks E a b c d e hI=>Em hI λhr ID hd hl e1 e2=>?_;(subst e1;try clear hI;subst e2);clear hI;cases ks with
  |nil=>exact cN hr
  |cons k ks=>
   simp only[By,Dj]at hr;obtain⟨rfl,rfl⟩:=hr;obtain hk:=ID k (.head _);rw[DW]at hd;obtain FG:E.length+400+400*ks.length<=4800:=by simp at hl;exact AM 0x11212fcf0f21019f0f619f0f20033012fcf0f21210319f0f600309 rfl hl
   clear hl;apply Be;intro mz Kz;refine AA<|Bw (.inl rfl) n1 g1<|AA<|Hr (AM 300377128009761 rfl) (AQ 0x1122081000383201000329 rfl hk) (Ah 0x1120ff4f2f4f0f2000c20009 rfl ht)<|AA<|P1 _ _ _<|AA<|WD AS (AM 0x19f0f011418f6faf0f200012fcf0f21019f0f619f0f2003309 rfl FG) ?_
   refine AD set_set<|AD (HR ..) ?_
   obtain hz:=G9 (l:=E) (k:=(((start+k:Nat):Int),((start+k:Nat):Int)+1)) (v:=lit (AF.getD (start+k) 0));have Of:OU lit AH AF (max 2 le) (ED AF le wi mo) E (start+k)=(ED AF le wi mo (start+k)).foldl (OV AH (max 2 le) ((start+k:Nat):Int)) (dput E (((start+k:Nat):Int),((start+k:Nat):Int)+1) (lit (AF.getD (start+k) 0))):=rfl;rw[Of]at hd;clear Of;generalize dput E (((start+k:Nat):Int),((start+k:Nat):Int)+1) (lit (AF.getD (start+k) 0))=E1 at hd hz;obtain Yd:=hR (start+k) hk;generalize hRR:ED AF le wi mo (start+k)=RR at hd Yd;apply AA;let I2:List MV->Hp->Lc->Prop:=λAN AE m=>∃(xs:List (Int×Int))(E':C6)(b c d e:Option MV),AN=xs.map pv/\(∀x∈xs,0<=x.1/\x.1<=12)/\
    RR.foldl (OV AH (max 2 le) ((start+k:Nat):Int)) E1=xs.foldl (OV AH (max 2 le) ((start+k:Nat):Int)) E'/\E'.length+20*xs.length<=E.length+300/\AE=V.set f (.dp E')/\m=M E' (some (.int ((start+k:Nat):Int))) b c d e
   refine AF1 T (AQ 0x11220100030201000329 rfl hk) h2 hle kY<|AA<|EO I2 (.lst _ _) (λZ Z Z Z Z=>trivial) (λZ Z Z=>trivial) ((Qo RR E1 _ _ _ _ (Cc ?_ Yd.2 rfl (AQ 0x114f1312fcf22031014f60030c21009122030009 rfl hz Yd.1) rfl rfl))) ?_ ?_
   ·refine AD (A0 hRR) ?_;rfl
   ·intro mv AN AE m hI;refine OZ hI λxs E2 b c d e hI=>Em hI λhr Dd hd2 E7 e1 e2=>?_;(subst e1;try clear hI;subst e2);clear hI;cases xs with
    |nil=>exact cN hr
    |cons x xs=>
     simp only[By,Dj]at hr;obtain⟨rfl,rfl⟩:=hr;obtain hx:=Dd x (.head _);rw[DW]at hd2;obtain Oo:E2.length+20+20*xs.length<=E.length+300:=by simp at E7;exact AQ 0x11212fcf22031014f614f20033012fcf22031210314f600309 rfl E7
     clear E7;apply Be;intro mz Kz;apply AA;let I3:List MV->Hp->Lc->Prop:=λAN AE m=>∃(ms:List Int)(E':C6)(d e:Option MV),AN=ms.map MV.int/\
      OV AH (max 2 le) ((start+k:Nat):Int) E2 x=ms.foldl (Ql AH ((start+k:Nat):Int) x.2) E'/\E'.length+ms.length<=E2.length+15/\AE=V.set f (.dp E')/\m=M E' (some (.int ((start+k:Nat):Int))) (some (.int x.1)) (some (.int x.2)) d e
     refine CR BY (by decide) (by decide) rfl<|AA<|Kx<|AA<|J7<|AA<|EO I3 (.D2 _ _ _ (Aw 0x1021120122b0ff4f2f4f0f251 rfl) (Aw 0x100310130ff4f2f4f0f20122b164f20119 rfl hle) (Aw 0x1013120130ff4f2f4f0f251c20110102179 rfl hx) (Aw 0x11030ff4f2f4f0f2120131c20110102179 rfl hx)) (λZ Z Z Z Z=>trivial) (λZ Z Z=>trivial) ((Ar (BP (max 2 le) (x.1+1)) E2 _ _ (An rfl rfl ?_ rfl rfl))) ?_ ?_
     ·simp[BP];exact Bd 0x10104111040ff21122b1201341c20110102179 rfl hx
     ·intro mv AN AE m hI;refine Bc hI λms E3 d e hI=>Cu hI λhr Q5 ND e1 e2=>?_;(subst e1;try clear hI;subst e2);clear hI;cases ms with
      |nil=>exact cN hr
      |cons y ms=>
       simp only[By,Dj]at hr;obtain⟨rfl,rfl⟩:=hr;rw[DW]at Q5;apply Be;intro mz Kz;refine AA<|Bw (.inl rfl) n2 g2<|AA<|P2 _ _ _ _<|AA<|Ah7 (.inr ⟨_,⟨rfl,AS⟩⟩)<|AA<|Ah4 (.inr ⟨_,⟨rfl,AS⟩⟩)<|AA<|Ky<|AA<|WD AS (by simp at ND;exact Zc 0x19f0f014f0101111a18f6faf0f20000ff2203121030030912fcf24033014f614f220330912fcf0f25019f0f619f0f2403309 rfl FG Oo ND) ?_
       refine AD set_set ?_;obtain hz:=xC (AH:=AH) (p:=((start+k:Nat):Int)) (back:=x.2) (E:=E3) (many:=y);exact Ar ms (Ql AH ((start+k:Nat):Int) x.2 E3 y) _ _ (An rfl Q5 (by simp at ND;exact CM 0x11130ff22031000301230300090ff22031210330309 rfl ND hz) rfl rfl)
     ·intro AE m hI;refine Bc hI λms E3 d e hI=>Cu hI λhr Q5 ND e1 e2=>?_;(subst e1;try clear hI;subst e2);cases ms with
      |cons y ms=>exact nC hr
      |nil=>
       rw[KO]at Q5;rw[Q5]at hd2;exact Qo xs E3 _ _ _ _ (Cc rfl (λu hu=>Dd u (.tail _ hu)) hd2 (by simp at ND;exact CM 0x111312fcf22031014f600300ff2303000912fcf22031014f614f2303309 rfl Oo ND) rfl rfl)
   ·intro AE m hI;refine OZ hI λxs E2 b c d e hI=>Em hI λhr Dd hd2 E7 e1 e2=>?_;(subst e1;try clear hI;subst e2);cases xs with
    |cons x xs=>exact nC hr
    |nil=>
     rw[KO]at hd2;rw[hd2]at hd;exact Gi ks E2 _ _ _ _ _ (Cc rfl (λu hu=>ID u (.tail _ hu)) hd (by simp at E7;exact AQ 0x111312fcf0f21019f0f6003012fcf2203000912fcf0f21019f0f619f0f2203309 rfl FG E7) rfl rfl)
 ·intro AE m hI;refine LY hI λks E a b c d e hI=>Em hI λhr ID hd hl e1 e2=>?_;(subst e1;try clear hI;subst e2);cases ks with
  |cons k ks=>exact nC hr
  |nil=>
   rw[KO]at hd;refine .dp AS (.done ?_);refine AD (Gh nf)<|AD (A0 hd) ?_;exact q
section
variable{prog:H5}{w:CE}{A:Hx}{E:Ap->Bq->Prop}
theorem AK4{t os e x o name Q}
 (he:h.get? e=some ⟨.type "AttributeError",none,.fields #[x,.none,.none,.none,.bool false,.none,unsetMember,unsetMember],#[]⟩)
 (hq:∀h',JT e h h'->(∃ob,h'.get? e=some ob/\ob.cls=.type "AttributeError")->Q () ⟨h',g,d,t,os⟩):Aq (A7 prog w) A (noteAttr (.ref e) o name) Q E ⟨h,g,d,t,os⟩:=by
 obtain hT:(⟨h,g,d,t,os⟩:Bq).TypeIs (.ref e) "AttributeError":=⟨_,⟨he,rfl⟩⟩;unfold noteAttr lacksNameAndObj;obtain hs:isSubtype (.type "AttributeError") (.type "AttributeError")=pure true:=by apply AG (AC7 ..);kernel_rfl
 repeat (any_goals (first|assumption|wp_step))
 exact hq _ (TQ ..) ⟨_,⟨(W' _ he rfl),rfl⟩⟩
structure W2(h h':BU)(e:AU):Prop where
 keeps:∀b o,h.get? b=some o->h'.get? b=some o
 there:∃ob,h'.get? e=some ob/\ob.cls=.type "AttributeError"
theorem AQ7{α:Type}{name msg Q}(hh:A.handled=none)(hm:msg.length<=Vp)(h:∀h' tk e,W2 s.heap h' e->E (.ref e) {s with heap:=h',toks:=tk}):
 Aq (A7 prog w) A (AQ6 o name msg:EG α) Q E s:=by
 unfold AQ6;refine Ae (wpAny_mkStr (Ae ?_) hm);unfold newExc newTuple;refine Ae (bY ?_);refine Ae (m:=firstArgMember _ _) (IX (a:=T9) (by kernel_rfl) ?_);refine bY ?_;dsimp only;generalize hT:({cls:=.type "tuple",data:=.seq #[.str msg s.toks]}:GG)=T;generalize hO:({cls:=.type "AttributeError",data:=.fields (#[.ref s.heap.objs.size,.none,.none,.none,.bool false,.none]++ownMembersOf (.type "AttributeError") [.str msg s.toks])}:GG)=O;obtain hk:∀b o,s.heap.get? b=some o->((s.heap.push T).push O).get? b=some o:=λb o e=>DD _ (DD _ e);obtain he:((s.heap.push T).push O).get? (s.heap.push T).objs.size=some O:=Dx _ (by refine AD (A0 hO) ?_;rfl);obtain hn:s.heap.get? (s.heap.push T).objs.size=none:=Heap.get?_none_of_le (by simp);subst hO;generalize (s.heap.push T).objs.size=e at*;generalize ((s.heap.push T).push _)=h2 at*;refine Ae (qP ?_)
 refine Ae (AK4 he λh' sb ob=>?_)
 unfold raiseNew
 refine Ae (wpAny_handled ?_);refine AD hh ?_;first
  |refine bo ?_
  |refine Ae (BN (bo ?_))
 exact h h' _ e ⟨λb o q=>(sb.2 b (λz=>by rw[z]at q;rw[hn]at q;exact nS q)).trans (hk b o q),ob⟩
theorem AG1:V4 (.type "list") "keys"=pure none:=by refine AG (bO ..)<|AD Xn ?_;kernel_rfl
theorem AG0:V4 (.type "list") "__getattr__"=pure none:=by refine AG (bO ..)<|AD Xn ?_;kernel_rfl
variable{h:BU}{g:Array GenState}{d:Drawn}{t:Nat}{os:OsState}{a:AU}{xs:Array Ap}{n:Nat}
theorem AD8{tk Q}(hh:A.handled=none)(hx:h.get? a=some ⟨.type "list",none,.seq xs n,#[]⟩)(hq:∀h' t' e,W2 h h' e->E (.ref e) ⟨h',g,d,t',os⟩):
 Aq (A7 prog w) A (Builtin.«object.__getattribute__» ⟨[.ref a,.str "keys" tk],[]⟩) Q E ⟨h,g,d,t,os⟩:=by
 have hT:(⟨h,g,d,t,os⟩:Bq).TypeIs (.ref a) "list":=⟨_,⟨hx,rfl⟩⟩;have f4:=AG1;unfold Builtin.«object.__getattribute__»;repeat (any_goals (first|assumption|wp_step))
 refine AD (show(CL (toString "'"++toString ((Manifest.find? "list").elim "list" λx=>x.tpName)++toString "' object has no attribute '")++CL "keys"++CL "'")=CL "'list' object has no attribute 'keys'" from by decide+kernel)<|AQ7 hh (by decide+kernel) λh' tk e x=>hq h' tk e x
theorem AJ7(hh:A.handled=none)(hx:h.get? a=some ⟨.type "list",none,.seq xs n,#[]⟩)(hq:∀h' t',(∀b o,h.get? b=some o->h'.get? b=some o)->Q none ⟨h',g,d,t',os⟩):
 Aq (A7 prog w) A (getAttr? (.ref a) "keys") Q E ⟨h,g,d,t,os⟩:=by
 obtain hT:∀t,(⟨h,g,d,t,os⟩:Bq).TypeIs (.ref a) "list":=λt=>⟨_,⟨hx,rfl⟩⟩
 obtain hs:isSubtype (.type "AttributeError") (.type "AttributeError")=pure true:=by apply AG (AC7 ..);kernel_rfl
 unfold getAttr? getAttrBy?
 refine Ae (qP ?_)
 refine Ae (Aj2 ?_)
 obtain fin:∀h' tk e,W2 h h' e->Aq (A7 prog w) A (match(Except.error (Ja e):Except Ap Ap)with| .ok v=>pure (some v)| .error e=>do if<-isInstance e (.type "AttributeError")then pure none else throw e) Q E ⟨h',g,d,tk,os⟩:=λh' tk e x=>by
  (refine AI x.there λob AR=>?_;obtain e1:=AR.1;obtain e2:=AR.2)
  obtain Yg:(⟨h',g,d,tk,os⟩:Bq).TypeIs (.ref e) "AttributeError":=⟨ob,⟨e1,e2⟩⟩;refine Ae (qO Yg hs ?_);exact BN (hq h' tk x.keeps)
 unfold getAttrBy;refine F9<|Ae (SP (hT _) ?_)
 refine Ae (IX W7.lookup ?_);dsimp only;refine AD (show(onTheHeap (Mx "list")&&(uu "list.__getattribute__")==uu "object.__getattribute__")=false from by decide+kernel) ?_;simp only[Mc,if_false];unfold getAttrByItsOwn;refine Ae (m:=hookBefore _) (IX (a:=none) (by kernel_rfl) ?_);refine Ae (Aj2 ?_);apply F9;unfold callGetattribute;simp only[Nz,Mc,if_false];unfold boundAndCalled;refine Ae (IX (W7.bind (.ref a)) ?_);dsimp only;refine qN (codeAny_call_builtin W7.plain F.entry_list_ga (W7.check _ _ _ _ _ _ _ _ (hT _) (F.args_list_getattribute_2 _ _) ?_));refine AD8 hh hx λh' tk e x=>?_
 (refine AI (id x.there) λob Af=>?_;obtain e1:=Af.1;obtain e2:=Af.2)
 obtain Yg:(⟨h',g,d,tk,os⟩:Bq).TypeIs (.ref e) "AttributeError":=⟨ob,⟨e1,e2⟩⟩;show Aq _ _ (yv _ _ _ _ _ _ _) _ _ _;unfold yv;refine Ae (qO Yg hs ?_);simp only[if_true];refine Ae (m:=hookBehind _ _) (IX (a:=none) ?_ ?_)
 ·unfold hookBehind;refine AD (show onTheHeap (Mx "list")=false from by decide+kernel)<|AG0
 ·unfold hookOrError;dsimp only;unfold attributeErrorLeaves;simp only[Bool.not_false,if_true];first
   |apply bo
   |refine Ae (bo ?_)
  exact fin h' tk e x
end
section
variable{w:CE}{A:Hx}{E:Ap->Bq->Prop}{s:Bq}
theorem iX:entryFor table "dict.update.loop"=some Builtin.«dict.update.loop»:=entryFor_of_tree (by kernel_rfl)
theorem Ve:plainId "dict.update.loop"=true:=by decide+kernel
def fp(w:CE)(h:BU)(xs:Array Ap)(zs:List (List Int×AU×Ap)):Prop:=
 xs.size=zs.length/\∀(i:Nat)z,zs[i]? =some z->∃p m,xs[i]? =some (.ref p)/\h.get? p=some (Nd #[.ref z.2.1,z.2.2] m)/\(tk w).is h z.1 z.2.1
theorem Ag5{n:Nat}{J:List (List Int×AU×Ap)->Nat->Prop}(hh:A.handled=none)(hu:(tk w).room A.in1)
 (Lj:C8.get? d=none) (M_:C8.get? I=none) (Q6:d≠I) (hx:C8.get? src=some (GN xs n)) (P:fp w C8 xs zs) (IG:zs.length<=100000)
 (hJ:∀acc i z,(acc.map (·.1)).Nodup->J acc i->zs[i]? =some z->J (PU acc z.1 z.2.1 z.2.2) (i+1)):
 ∀(k i:Nat)(acc:List (List Int×AU×Ap))(s:Bq)(ti:Tok),zs.length-i=k->i<=zs.length->acc.length<=i->J acc i->(∀b o,b≠d->b≠I->C8.get? b=some o->s.heap.get? b=some o)->
  s.heap.DictOfH (tk w) d acc->s.heap.IsListIter I src i->
  (∀h' tk El,(∀b o,b≠d->b≠I->C8.get? b=some o->h'.get? b=some o)->h'.DictOfH (Internal.tk w) d El->J El zs.length->R (.ok (.ret .none)) {s with heap:=h',toks:=tk})->
  GI (A7 BJ w) A (.builtin "dict.update.loop" ⟨[.ref d,.ref I,.int i ti,.none],[]⟩) R s:=by
 obtain lA:src≠d:=λz=>by rw[z,Lj]at hx;exact nS hx
 obtain k_:src≠I:=λz=>by rw[z,M_]at hx;exact nS hx
 intro k;induction k with
 |zero=>
  intro i acc s ti hk hi hl j kp hd hit hR;obtain IC:i=zs.length:=by exact rE hk hi
  subst IC
  refine hY iX<|AD (d_ Ve _) ?_
  show Aq _ A.in1 (PJ (.ref I)>>=_) _ _ s;obtain FG:s.heap.IsList src xs:=⟨_,(AO (kp src _ lA k_ hx) rfl ⟨n,rfl⟩)⟩;refine Ae (ba hh hit FG (by simp[P.1]) λh' ex=>?_);show Aq _ A.in1 (An2 d []>>=_) _ _ _;refine Ae (BN ?_);refine BN (hR h' s.toks acc (λb o n1 n2 e=>ex b o n2 (kp b o n1 n2 e)) ?_ j);(refine A1 hd λo es ep AX=>?_;obtain e1:=AX.1;obtain e2:=AX.2.1;obtain e3:=AX.2.2.1;obtain e4:=AX.2.2.2.1;obtain e5:=AX.2.2.2.2.1;obtain e6:=AX.2.2.2.2.2);refine(BK o es ep (Cc (ex d o Q6 e1) e2 e3 e4 (λx hx=>?_) e6));(refine A1 (show IsTupleKey (ik w) s.heap x.1 x.2.1 from e5 x hx) λo' items m A9=>?_;obtain z1:=A9.1;obtain z2:=A9.2.1;obtain z3:=A9.2.2.1;obtain z4:=A9.2.2.2);refine(BK o' items m (BR (ex _ _ (λz=>?_) z1) z2 z3 z4));(refine AI hit λoi Ai=>?_;obtain io:=Ai.1;obtain ic:=Ai.2.1);rw[z,io]at z1;(obtain zI:=Au z1;subst zI);rw[ic]at z2;simp at z2
 |succ k ih=>
  intro i acc s ti hk hi hl j kp hd hit hR;obtain Cq:i<zs.length:=by exact AQ 0x100010071001100710002122030010449 rfl hk
  obtain⟨z,hz⟩:∃z,zs[i]? =some z:=⟨_,Ee Cq⟩;(refine Ao (P.2 i z hz) λp m A5=>?_;obtain g1:=A5.1;obtain g2:=A5.2.1;obtain g3:=A5.2.2);obtain hpd:p≠d:=λq=>by rw[q,Lj]at g2;exact nS g2
  obtain hpI:p≠I:=λq=>by rw[q,M_]at g2;exact nS g2
  obtain⟨oz,gz⟩:=bI g3;obtain Lk:z.2.1≠d:=λq=>by rw[q,Lj]at gz;exact nS gz
  obtain hkI:z.2.1≠I:=λq=>by rw[q,M_]at gz;exact nS gz
  refine hY iX<|AD (d_ Ve _) ?_
  show Aq _ A.in1 (PJ (.ref I)>>=_) _ _ s;obtain FG:s.heap.IsList src xs:=⟨_,(AO (kp src _ lA k_ hx) rfl ⟨n,rfl⟩)⟩;refine Ae (bc hit FG g1 λFh Yw aY=>?_);obtain ZW:∀b o,b≠d->b≠I->C8.get? b=some o->Fh.get? b=some o:=λb o n1 n2 e=>(aY.2 b n2).trans (kp b o n1 n2 e);have kM:Fh.DictOfH (tk w) d acc:=by
   (refine A1 hd λo es ep A6=>?_;obtain e1:=A6.1;obtain e2:=A6.2.1;obtain e3:=A6.2.2.1;obtain e4:=A6.2.2.2.1;obtain e5:=A6.2.2.2.2.1;obtain e6:=A6.2.2.2.2.2);refine(BK o es ep (Cc ((aY.2 d Q6).trans e1) e2 e3 e4 (λx hx=>?_) e6));(refine A1 (show IsTupleKey (ik w) s.heap x.1 x.2.1 from e5 x hx) λo' items m A2=>?_;obtain z1:=A2.1;obtain z2:=A2.2.1;obtain z3:=A2.2.2.1;obtain z4:=A2.2.2.2);refine(BK o' items m (BR ((aY.2 _ (λz=>?_)).trans z1) z2 z3 z4));(refine AI hit λoi BC=>?_;obtain io:=BC.1;obtain ic:=BC.2.1);rw[z,io]at z1;(obtain zI:=Au z1;subst zI);rw[ic]at z2;simp at z2
  dsimp only;refine Ae (F9 ?_);refine Ae (wpAny_tryCatch ?_);unfold An3;obtain gp:=ZW p _ hpd hpI g2;refine Ae (SP (T:="tuple") (show(({s with heap:=Fh}:Bq)).TypeIs (.ref p) "tuple" from⟨_,⟨gp,rfl⟩⟩) ?_);refine AD (if_pos (by decide))<|Ae (Ak5 gp rfl ?_)
  apply BN;show Aq _ A.in1 (Jl [Ja z.2.1,z.2.2] (dictSet d (.ref z.2.1) z.2.2)) _ _ _;apply F9;obtain AD9:(tk w).is Fh z.1 z.2.1:=IsTupleKey.mono (λo e=>ZW _ o Lk hkI e) g3;refine wpAny_dictSet_heap hu AD9 kM (λOy AA8 oZ=>?_) (by refine AD JC ?_;exact AQ 0x1111410f0f0f0f0f0f200020102910000918f6faf0f22009 rfl IG hl Cq);obtain nd:(acc.map (·.1)).Nodup:=(by(refine A1 kM λZ Z Z AR=>?_;obtain hn:=AR.2.2.2.2.2);exact hn);refine BN ⟨aP Ve _,?_⟩;have AB4:Oy.IsListIter I src (i+1):=by
   (refine AI Yw λoi BM=>?_;obtain io:=BM.1;obtain r:=BM.2);exact⟨oi,⟨((oZ.2 I Q6.symm).trans io),r⟩⟩
  obtain hlen:(PU acc z.1 z.2.1 z.2.2).length<=acc.length+1:=by unfold PU;split<;>simp
  exact ih (i+1) _ _ 0 (rF hk) (Wd Cq) (AQ 0x111312103000122030009102009 rfl hl hlen) (hJ _ _ _ nd j hz) (λb o n1 n2 e=>(oZ.2 b n1).trans (ZW b o n1 n2 e)) AA8 AB4 λh' tk El a1 a2 a3=>hR h' tk El a1 a2 a3
end
theorem nj:∀{l:C6}{vs:List Ap},AY w D h (l.map λx=>MV.tup [.tup [.int x.1.1,.int x.1.2],.int x.2]) vs->
 ∃zs:List (List Int×AU×Ap),zs.length=l.length/\vs.length=l.length/\∀(i:Nat)z,zs[i]? =some z->∃p m x t,vs[i]? =some (.ref p)/\h.get? p=some (Nd #[.ref z.2.1,z.2.2] m)/\(tk w).is h z.1 z.2.1/\¬D z.2.1/\
  l[i]? =some x/\z.1=[x.1.1,x.1.2]/\z.2.2=.int x.2 t
 |[],[],_=>⟨([]),(AO rfl rfl (λi z h=>by exact nS h))⟩
 |[],_::_,h=>by simp only[OB,BD]at h
 |_::_,[],h=>by simp only[By,BD]at h
 |x::l,v::vs,h=>by
  simp only[By,BD]at h;(refine AI (nj h.2) λzs Af=>?_;obtain e1:=Af.1;obtain e2:=Af.2.1;obtain e3:=Af.2.2;clear Af);obtain hv:=h.1;simp only[AZ]at hv;(refine A1 hv λp items n AX=>?_;obtain Cs:=AX.1;obtain np:=AX.2.1;obtain g:=AX.2.2.1;obtain r:=AX.2.2.2;clear AX;try clear hv;subst Cs);(refine Ao (J3 r) λa b Ai=>?_;obtain e:=Ai.1;obtain ha:=Ai.2.1;obtain hb:=Ai.2.2;clear Ai);(refine AI (SF ha) λka A5=>?_;obtain Ex:=A5.1;obtain nk:=A5.2.1;obtain kk:=A5.2.2;clear A5;subst Ex);simp only[AZ]at hb;obtain⟨t,rfl⟩:=hb;obtain ei:=Array.toList_inj.mp e;subst ei;refine⟨(([x.1.1,x.1.2],ka,.int x.2 t)::zs),(AO (by simp[e1]) (by simp[e2]) (λi z hz=>?_))⟩;cases i with
  |zero=>
   (obtain zI:=Au hz;subst zI);exact(Ar p n x t (Dz rfl g kk nk rfl rfl rfl))
  |succ i=>exact e3 i z hz
section
variable{X:Cx}{V:Hp}{m:Lc}{Q:MV->Hp->Lc->Prop}
theorem AM7{l:C6}{a:MV}(ha:B_ V a (l.map λx=>MV.tup [.tup [.int x.1.1,.int x.1.2],.int x.2]))(hz:l.length<=100000)(q:∀p,¬foot V p->Q (.ref p) (V.set p (.dp (l.foldl (λE x=>dput E x.1 x.2) []))) m):Dk X (.type "dict") [a] V m Q:=by
 intro s D vs hs hv;(refine AI (GZ hv) λu A2=>?_;obtain K6:=A2.1;obtain hu:=A2.2;clear A2;subst K6);(refine A1 (ha.at hs.rs hu) λsrc xs n BM=>?_;refine DF BM λHt hp ZD=>?_;clear BM;subst Ht);(refine AI (nj ZD) λzs CB=>?_;refine DF CB λz1 z2 z3=>?_;clear CB);obtain AI7:=QZ hs;have room:(tk X.w).room X.A.in1.in1:=by
  have:=hs.ok.2.2;show X.A.units+1+1<9900;exact AM 0x28f011426fafcf212120033223f2f8f21028f600309 rfl this
 have hh:X.A.handled=none:=hs.ok.1;have Lj:s.heap.get? s.heap.objs.size=none:=FA _;obtain P:fp X.w s.heap xs zs:=⟨by have:=z2;simp only[eA]at this;exact AQ 0x11001510110510004200049201049 rfl z1 this,λi z hz=>by
  (refine Bc (z3 i z hz) λp m x t Bj=>?_;refine G5 Bj λa1 a2 a3 Z=>?_;clear Bj);exact(Aj p m (AO (AD (A0 a1) AD (Ge) rfl) a2 a3))⟩
 obtain fin:∀h' tk acc,(∀b o,s.heap.get? b=some o->h'.get? b=some o)->h'.DictOfH (Internal.tk X.w) s.heap.objs.size acc->(H4 (l.foldl (λE x=>dput E x.1 x.2) []) acc/\∀x∈acc,∃z∈zs,z.2.1=x.2.1)->
  AW X VR D s V Q (.ref s.heap.objs.size) {s with heap:=h',toks:=tk}:=λh' tk acc kp hd ⟨pv',mem⟩=>by
  have kp':=kp;obtain⟨od,ed⟩:∃o,h'.get? s.heap.objs.size=some o:=(by(refine A1 hd λo Z Z AR=>?_;refine BQ AR λe Z=>?_;clear AR;try clear hd);exact⟨o,e⟩);obtain⟨r,st⟩:=hs.rs.alloc (h':=h') (a:=s.heap.objs.size) (mo:=.dp (l.foldl (λE x=>dput E x.1 x.2) [])) (N:=λb=>s.heap.get? b=none/\∃o,h'.get? b=some o) kp' (λb e=>e) ⟨Lj,⟨od,ed⟩⟩
   ⟨AI7,acc,hd,(λx hx q=>by
    (refine AI (mem x hx) λz B0=>?_;refine BQ B0 λhz e=>?_;clear B0);obtain⟨i,hi,rfl⟩:=List.getElem_of_mem hz;(refine Bc (z3 i _ (Ee hi)) λp m y t Cb=>?_;refine Cu Cb λa1 a2 a3 a4 Z=>?_;clear Cb);rw[<-e]at q;rcases q with q|q
    ·exact a4 q
    ·obtain⟨oz,gz⟩:=bI a3;rw[gz]at q;exact sN q.1),pv'⟩ (λd e=>by exact nS e)
  exact AW.next (t:=tk) hs r st (by simp only[AZ]) (q _ λf=>by obtain⟨o,e⟩:=Iw hs.rs f;exact CO e Lj)
 obtain⟨Es,g,d,pR,os⟩:=s;dsimp only at*;have Yu:((Es.push {cls:=.type "dict",data:=.dict #[]}).get? src)=some (GN xs n):=DD _ hp;refine gk (Q₁:=λobj AJ=>obj=.ref Es.objs.size/\AJ=⟨Es.push {cls:=.type "dict",data:=.dict #[]},g,d,pR,os⟩) PySem.F.kt_called_dict (PySem.F.kt_typeCall_dict_1 _) F.entry_dict_init (kt_code_dict_new _ ⟨rfl,rfl⟩) ?_;intro obj AJ Dh;obtain⟨rfl,rfl⟩:=Dh;have Uq:(⟨Es.push {cls:=.type "dict",data:=.dict #[]},g,d,pR,os⟩:Bq).TypeIs (.ref Es.objs.size) "dict":=⟨_,⟨(Dx _ rfl),rfl⟩⟩;refine(AO Uq (F.args_dict_init_2 _ _) ?_);unfold Builtin.«dict.__init__»;refine Ae ?_;unfold An4;refine Ae (wpAny_notOrdered_dict Uq ?_);show Aq _ _ (pure (Es.objs.size,[Ja src])) _ _ _;refine BN ?_;show Aq _ _ (rt "dict.__init__" Es.objs.size (.ref src) [] .none) _ _ _;unfold rt;refine Ae (SP (T:="list") ⟨_,⟨Yu,rfl⟩⟩ ?_);refine AD (if_pos (by decide))<|Ae (AJ7 hh Yu λh1 t1 ZT=>?_)
 dsimp only;refine AD (if_pos rfl)<|Ae (bh ?_)
 obtain g1:h1.get? src=some (GN xs n):=ZT _ _ Yu;have gd:h1.get? Es.objs.size=some {cls:=.type "dict",data:=.dict #[]}:=ZT _ _ (Dx _ rfl);refine Ae (bZ (s:=⟨h1,g,d,t1,os⟩) ⟨_,(AO g1 rfl ⟨n,rfl⟩)⟩ ?_);refine BN ⟨aP Ve _,?_⟩;have l0:∀b o,Es.get? b=some o->h1.get? b=some o:=λb o e=>ZT b o (DD _ e);have nI:h1.get? h1.objs.size=none:=FA _;have M_:Es.get? h1.objs.size=none:=by
  cases e:Es.get? h1.objs.size with
  |none=>rfl
  |some o=>rw[l0 _ _ e]at nI;exact sN nI
 obtain Q6:Es.objs.size≠h1.objs.size:=λz=>by rw[z,nI]at gd;exact nS gd
 refine Ag5 (C8:=Es) (d:=Es.objs.size) (I:=h1.objs.size) (src:=src) (xs:=xs) (n:=n) (zs:=zs)
  (J:=λacc i=>(H4 ((l.take i).foldl (λE x=>dput E x.1 x.2) []) acc)/\∀x∈acc,∃z∈zs,z.2.1=x.2.1) (A:=X.A.in1) hh room Lj M_ Q6 hp P (AM 0x1011418f6faf0f200010004918f6faf0f21009 rfl hz z1) ?_ zs.length 0 [] _ 0 (by simp) Nv (by simp) ⟨trivial,λx hx=>by cases hx⟩
  (λb o n1 n2 e=>DD _ (l0 b o e)) (BK _ (#[]) 0 (Cc (DD _ gd) (AO rfl rfl rfl) rfl rfl (λx hx=>nomatch hx) .nil)) ⟨_,(AO (Dx _ rfl) rfl rfl)⟩ ?_
 ·intro acc i z nd ⟨j1,j2⟩ lM;(refine Bc (z3 i z lM) λp m x t Cg=>?_;refine En Cg λa1 a2 a3 a4 a5 a6 a7=>?_;clear Cg);have il:i<l.length:=by
   by_cases q:i<l.length
   ·exact q
   ·rw[fL (by exact AM 77141735804830313 (by kernel_rfl) q)]at a5;exact nS a5
  obtain e1:l.take (i+1)=l.take i++[x]:=by refine AG t8<|AD a5 ?_;rfl
  refine AD e1<|AD TZ ?_
  refine⟨?_,λy hy=>?_⟩
  ·have:=j1.stored (k:=x.1) (v:=x.2) (a:=z.2.1) (t:=t) nd;refine AD a6<|AD a7 ?_
   exact this
  ·unfold PU at hy;split at hy
   ·(refine AI (DJ.mp hy) λy' Bt=>?_;obtain ZF:=Bt.1;obtain JN:=Bt.2;clear Bt;subst JN);(refine AI (j2 y' ZF) λz' Ct=>?_;refine BQ Ct λZG e=>?_;clear Ct);refine⟨z',⟨ZG,?_⟩⟩;unfold putAt;split<;>exact e
   ·rcases DX.mp hy with q|q
    ·exact j2 y q
    ·refine AD (D7.mp q)<|⟨z,⟨(XO lM),rfl⟩⟩
 ·intro h' tk acc kp hd ⟨j1,j2⟩;refine⟨rfl,fin h' tk acc (λb o e=>kp b o (λz=>by rw[z,Lj]at e;exact nS e) (λz=>by rw[z,M_]at e;exact nS e) e) hd ⟨?_,j2⟩⟩;rw[Tj (by exact AM 76615069735063625 (by kernel_rfl) z1)]at j1;exact j1
end
section
variable{c:CW}{V:Hp}{K:MV->Hp->Prop}
theorem Ah1{l:C6}{a:MV}(ha:B_ V a (l.map λx=>MV.tup [.tup [.int x.1.1,.int x.1.2],.int x.2]))(hz:l.length<=100000)(q:∀p,¬foot V p->K (.ref p) (V.set p (.dp (l.foldl (λE x=>dput E x.1 x.2) [])))):ask c (.bi (.type "dict") [a]) V K:=λX m=>AM7 ha hz λp np=>⟨rfl,q p np⟩
end
noncomputable def Qe(D:Nat->Nat->Int)(E:C6)(p g:Nat):List Int:=
 (EV (g-p-1)).map (λk=>D p (p+1+k)+D (p+1+k) g)++(match Ak E ((p:Int),(g:Int))with|some e=>[e]|none=>[])
structure W6(D:Nat->Nat->Int)(E:C6)(start en:Nat):Prop where
 zero:∀p,D p p=0
 mem:∀p g,start<=p->p<g->g<=en->D p g∈Qe D E p g
 le:∀p g,start<=p->p<g->g<=en->∀y∈Qe D E p g,D p g<=y
def QA(D:Nat->Nat->Int)(start en:Nat)(C:C6)(P:Nat->Nat->Prop):Prop:=∀p g,start<=p->p<=g->g<=en->P p g->Ak C ((p:Int),(g:Int))=some (D p g)
theorem iM:∀(l:List Nat)(C:C6)(p:Nat),(p∈l\/Ak C ((p:Int),(p:Int))=some 0)->Ak ((l.map λ(k:Nat)=>(((k:Int),(k:Int)),(0:Int))).foldl (λE x=>dput E x.1 x.2) C) ((p:Int),(p:Int))=some 0
 |[],C,p,h=>by
  rcases h with h|h
  ·cases h
  ·exact h
 |a::l,C,p,h=>by
  refine AD By<|AD DW ?_
  apply iM l _ p;by_cases e:a=p
  ·right;exact AG Je (if_pos (by rw[e]))
  ·rcases h with h|h
   ·rcases CH.mp h with q|q
    ·exact absurd q.symm e
    ·exact .inl q
   ·right;refine AG Je<|AD (if_neg (λz=>e (by have:=(ft z).1;exact Ia this))) ?_
    exact h
theorem iI:∀(l:C6)(C:C6),(l.foldl (λE x=>dput E x.1 x.2) C).length<=C.length+l.length
 |[],C=>by simp
 |a::l,C=>by
  refine AD DW ?_;obtain this:=iI l (dput C a.1 a.2);obtain this:=G9 (l:=C) (k:=a.1) (v:=a.2);refine AD KQ ?_;exact CM 0x111312203103000121033009203030009 rfl (by assumption) this
theorem PK(h:a<b):BP a b=a::BP (a+1) b:=by
 unfold BP;obtain⟨n,hn⟩:∃n:Nat,(b-a).toNat=n+1:=⟨(b-a).toNat-1,by exact rG h⟩;refine AD hn<|AD (show(b-(a+1)).toNat=n by exact rH hn)<|AD tn<|AG By<|AD Fd ?_
 refine congr (congrArg _ (by simp)) (OA λk Z=>?_);simp only[sQ];exact Bp 0x11110081201331200380135 rfl
theorem Vh(h:b<=a):BP a b=[]:=by
 unfold BP;refine AD (show(b-a).toNat=0 by exact Bd 0x1003100311031013021101494110119 rfl h) ?_;rfl
theorem AE4{E start en D}(hs:start<=en)(F3:en<=12)(H:W6 D E start en)
 (q:∀C,QA D start en C (λZ Z=>True)->Q (.dp C) V):Ag w h₀ 1 651 [.dp E,.int (start:Nat),.int (en:Nat)] V Q:=by
 refine Ag.cv<|Bg ["edges","start","end"] ["costs","size","place","goal","sums"] ["dict","range","min"] ["costs","place","goal"] [] (by kernel_rfl) (by kernel_rfl) ?_
 refine AA<|J7<|AA<|Pe (λZ=>true) (λk=>.tup [.tup [.int k,.int k],.int 0]) (.D2 _ _ _ Mb (AM 0x11130ff4f2f4f0f20081c21009100009 rfl hs F3) Sv (Ah 0x1120ff4f2f4f0f21200831c20009 rfl F3)) trivial (by simp[BP];exact AM 0x101141018f6faf0f23120030c20009 rfl F3) rfl (λa f K' ha kt Z=>?_) ?_
 ·skip;exact kt _ rfl
 have e0:((BP (start:Int) ((en:Int)+1)).filter (λZ=>true)).map (λk=>MV.tup [.tup [.int k,.int k],.int 0])=
  ((EV (en+1-start)).map λk=>((((start+k:Nat):Int),((start+k:Nat):Int)),(0:Int))).map λx=>MV.tup [.tup [.int x.1.1,.int x.1.2],.int x.2]:=by
  refine AD (XK.mpr (λZ Z=>rfl))<|AD (show((en:Int)+1)=((en+1:Nat):Int)by exact Wi)<|AD Vg<|AG Fd<|AD Fd ?_
  rfl
 refine AD e0<|AA<|Ah1 BY (by simp;exact AM 0x101141018f6faf0f23120030c20009 rfl F3) λf nf=>?_
 have CI:=CZ nf;have jt:QA D start en (((EV (en+1-start)).map λk=>((((start+k:Nat):Int),((start+k:Nat):Int)),(0:Int))).foldl (λE x=>dput E x.1 x.2) []) λp g=>g<p+1:=by
  intro p g h1 h2 h3 h4;have e:g=p:=by exact AM 0x1013110310004121030029001009 rfl h2 h4
  (try clear h4;try clear h2;subst e);refine AD (H.zero ..) ?_;have:=iM ((EV (en+1-start)).map λk=>start+k) [] g (.inl (DJ.mpr ⟨(g-start),⟨(JV.mpr (AQ 0x101141001151011410001510122034100042001009200009 rfl h3 h1)),(We h1)⟩⟩));rw[Fd]at this;exact this
 have Yy:=iI ((EV (en+1-start)).map λk=>((((start+k:Nat):Int),((start+k:Nat):Int)),(0:Int))) [];generalize ((EV (en+1-start)).map λk=>((((start+k:Nat):Int),((start+k:Nat):Int)),(0:Int))).foldl (λE x=>dput E x.1 x.2) []=C0 at jt Yy;clear e0;simp only[Fc,List.length_range,tY]at Yy;apply Be;intro mz Kz;apply AA;let M:Option MV->Option MV->Option MV->Option MV->Lc:=λa b c d=>[("edges",some (.dp E)),("start",some (.int start)),("end",some (.int en)),("costs",some (.ref f)),("size",a),("place",b),("goal",c),("sums",d)];let I:List MV->Hp->Lc->Prop:=λAN AE m=>∃(z:Nat)(C:C6)(a b c d:Option MV),AN=(BP (z:Int) ((en:Int)-start+1)).map MV.int/\1<=z/\QA D start en C (λp g=>g<p+z)/\C.length+20*AN.length<=280/\DE V AE/\AE f=some (.dp C)/\m=M a b c d;refine J7<|AA<|EO I (.D2 _ _ _ (EJ 0x11120ff4f2f4f0f251 rfl) (EJ 0x110ff4f2f4f0f2121 rfl) (AM 0x11212108008430ff4f2f4f0f251001009 rfl hs) (AM 0x101140ff4f2f4f0f212108008431c20009 rfl F3)) (λZ Z Z Z Z=>trivial) (λZ Z Z=>trivial) (Qo 1 C0 _ _ _ _ (Dz rfl (EJ 17899808 rfl) jt (by simp[BP];exact AQ 0x1010051010411100515f00101015f811f8f22010414f60030201210340230009c21009 rfl F3 Yy) (D6 CI) AS rfl)) ?_ ?_
 ·intro mv AN AE m hI;refine OZ hI λz C a b c d hI=>En hI λhr hz hC hl Lp hf e1=>?_;(try clear hI;subst e1);clear hI;have Cq:(z:Int)<(en:Int)-start+1:=by
   by_cases y:(z:Int)<(en:Int)-start+1
   ·exact y
   ·rw[Vh (by exact AQ 364377243392384802032102580201734570857 (by kernel_rfl) y)]at hr;exact cN hr
  rw[PK Cq]at hr;simp only[By,Dj]at hr;obtain⟨rfl,rfl⟩:=hr;have FG:C.length+20+20*((BP ((z:Int)+1) ((en:Int)-start+1)).map MV.int).length<=280:=by simp at hl|-;exact AM 0x11211f8f21014f614f20033011f8f21210314f600309 rfl hl
  clear hl;apply Be;intro mz Kz;apply AA;let I2:List MV->Hp->Lc->Prop:=λAN AE m=>∃(p:Nat)(C':C6)(b c d:Option MV),AN=(BP (p:Int) ((en:Int)-z+1)).map MV.int/\start<=p/\QA D start en C' (λx g=>g<x+z\/(g=x+z/\x<p))/\C'.length+AN.length<=C.length+15/\DE V AE/\AE f=some (.dp C')/\m=M (some (.int z)) b c d;refine J7<|AA<|EO I2 (.D2 _ _ _ Mb (AM 0x11130ff4f2f4f0f20081c21009100009 rfl hs F3) (AQ 0x10011512108008430ff4f2f4f0f251122080084310839 rfl Cq) (AM 0x101140ff4f2f4f0f212108008431c20009 rfl F3)) (λZ Z Z Z Z=>trivial) (λZ Z Z=>trivial) (D_ start C _ _ _ (Dz rfl (Ah 17825792 rfl) (λp g h1 h2 h3 h4=>hC p g h1 h2 h3 (by omega)) (by simp[BP];exact AQ 0x1101152080ff2312108008431c20009 rfl F3) Lp hf rfl)) ?_ ?_
  ·intro mv AN Bf m hI;refine GK hI λp C2 b c d hI=>En hI λhr hp M9 E7 Y9 Oh e1=>?_;(try clear hI;subst e1);clear hI;have Kg:(p:Int)<(en:Int)-z+1:=by
    by_cases y:(p:Int)<(en:Int)-z+1
    ·exact y
    ·rw[Vh (by exact AQ 364377243392384802032102580201734570857 (by kernel_rfl) y)]at hr;exact cN hr
   rw[PK Kg]at hr;simp only[By,Dj]at hr;obtain⟨rfl,rfl⟩:=hr;have Oo:C2.length+1+((BP ((p:Int)+1) ((en:Int)-z+1)).map MV.int).length<=C.length+15:=by simp at E7|-;exact AQ 0x1120ff22031012003300ff22031210300309 rfl E7
   clear E7;apply Be;intro mz Kz;refine AA<|J7<|AA<|Pe (λZ=>true) (λk=>.int (D p k.toNat+D k.toNat (p+z))) (.D2 _ _ _ Sv (AQ 0x10011160ff4f2f4f0f21200831122081084300839c21009 rfl F3 Kg) (AM 0x111310800830ff4f2f4f0f251 rfl) (AQ 0x11130ff4f2f4f0f210800831121082084300839c22009 rfl F3 Kg)) trivial (by simp[BP];exact AQ 0x1111418f6faf0f2120083108008341121082084300839c22009 rfl F3 Kg) rfl (λa3 f3 K' ha3 kt Z=>?_) ?_
   ·have Q_:=PL ha3;obtain⟨k,rfl⟩:∃k:Nat,a3=k:=⟨a3.toNat,by exact Bm 0x1010151100410004100040198015108008301301120083179 rfl Q_⟩;refine AA<|Nf (v:=D p k) (.inr ⟨_,⟨rfl,Oh⟩⟩) (M9 p k hp (AQ 0x10131000020800831083108120083179 rfl Q_) (CM 0x110141000030820830083008122083179123081084320839 rfl Kg Q_) (by omega))<|AA<|Nf (v:=D k (p+z)) (.inr ⟨_,⟨rfl,Oh⟩⟩) (by have:=M9 k (p+z) (CM 0x101141000030820831083108122083179200009 rfl hp Q_) (AQ 0x11032010300020810830083008121083179 rfl Q_) (df Kg) (by omega);refine AD (A0 this) ?_;simp) ?_
    exact kt _ rfl
   have lD:((BP ((p:Int)+1) ((p:Int)+z)).filter (λZ=>true)).map (λk=>MV.int (D p k.toNat+D k.toNat (p+z)))=
    ((EV ((p+z)-p-1)).map (λk=>D p (p+1+k)+D (p+1+k) (p+z))).map MV.int:=by
    refine AD (XK.mpr (λZ Z=>rfl))<|AD (show((p:Int)+1)=((p+1:Nat):Int)by exact Wi)<|AD (show((p:Int)+z)=((p+z:Nat):Int)by exact AM 0x111110003810800835 rfl)<|AD Vg<|AG Fd<|AD Fd<|AD (show p+z-(p+1)=p+z-p-1 by exact AM 0x10004100041003100310004100041001411004112112100310031001411004100041000412001000344120031000344 rfl) ?_
    rfl
   refine AD lD ?_;clear lD
   have Jk:=H.mem p (p+z) hp (AM 0x11210003002101209 rfl hz) (df Kg)
   have Ln:=H.le p (p+z) hp (AM 0x11210003002101209 rfl hz) (df Kg)
   unfold Qe at Jk Ln;generalize hSS:(EV ((p+z)-p-1)).map (λk=>D p (p+1+k)+D (p+1+k) (p+z))=SS at Jk Ln;have M':SS.length<=12:=by refine AD (A0 hSS) ?_;simp;exact AQ 0x101115d2000120082084310839c22009 rfl F3 Kg
   obtain NM:=G9 (l:=C2) (k:=((p:Int),(p:Int)+z)) (v:=D p (p+z));have turn:∀x,I2 ((BP ((p:Int)+1) ((en:Int)-z+1)).map MV.int) (Bf.set f (.dp (dput C2 ((p:Int),(p:Int)+z) (D p (p+z))))) (M (some (.int z)) (some (.int p)) (some (.int ((p:Int)+z))) x):=λx=>by
    refine D_ (p+1) (dput C2 ((p:Int),(p:Int)+z) (D p (p+z))) _ _ _ (Dz (by simp) (HP hp) (λx g h1 h2 h3 h4=>?_) (CM 0x11130ff22031000301230300090ff22031012303309 rfl Oo NM) (bC Y9 CI) AS rfl);rw[Je];by_cases y:x=p/\g=p+z
    ·rw[if_pos (by rw[y.1,y.2];simp),y.1,y.2]
    ·refine AD (if_neg (λw=>y (by have:=ft w;exact CM 0x1010051100051000151001053010320410004720830810835008108579 rfl this)))<|M9 x g h1 h2 h3 (by omega)
   refine AA<|qJ (.inl rfl) ?_
   cases he:Ak E ((p:Int),(p:Int)+z)with
   |none=>
    rw[show((p+z:Nat):Int)=(p:Int)+z by exact AM 0x111110800831000385 rfl,he]at Jk Ln;simp only[HS]at Jk Ln;refine AA<|De<|AA<|CU<|AA<|bR (l:=SS.map .int) (r:=[]) BY BY (by simp;exact Ah 0x11218f6faf0f2000c20009 rfl M') ?_
    refine AA<|qF (ns:=SS) (.inl (by simp)) (by intro y;rw[y]at Jk;cases Jk) λx D5 EC=>?_
    have ex:x=D p (p+z):=by have:=EC _ Jk;have:=Ln _ D5;exact dg (by assumption) this
    refine AD ex<|AA<|WD Oh (rI FG Oo)<|turn _
   |some e=>
    rw[show((p+z:Nat):Int)=(p:Int)+z by exact AM 0x111110800831000385 rfl,he]at Jk Ln;simp only at Jk Ln;refine AA<|IT<|AA<|Nf (.inl rfl) he<|AA<|CU<|AA<|bR (l:=SS.map .int) (r:=[.int e]) BY BY (by simp;exact Ah 0x11218f6f9fff2000c20009 rfl M') ?_
    refine AA<|qF (ns:=SS++[e]) (.inl (by simp)) (by simp) λx D5 EC=>?_
    have ex:x=D p (p+z):=by have:=EC _ Jk;have:=Ln _ D5;exact dg (by assumption) this
    refine AD ex<|AA<|WD Oh (rI FG Oo)<|turn _
  ·intro Bf m hI;refine GK hI λp C2 b c d hI=>En hI λhr hp M9 E7 Y9 Oh e1=>?_;(try clear hI;subst e1);have hge:(en:Int)-z+1<=(p:Int):=by
    by_cases y:(en:Int)-z+1<=(p:Int)
    ·exact y
    ·rw[PK (by exact AQ 364302591448617737791554561380433801577 (by kernel_rfl) y)]at hr;exact nC hr
   exact Qo (z+1) C2 _ _ _ _ (Dz (by simp) (Ah 1177123041568 rfl) (λx g h1 h2 h3 h4=>M9 x g h1 h2 h3 (by omega)) (by simp at E7;exact AQ 0x111311f8f21014f600300ff2203000911f8f21014f614f2203309 rfl FG E7) Y9 Oh rfl)
 ·intro AE m hI;refine OZ hI λz C a b c d hI=>En hI λhr hz hC hl Lp hf e1=>?_;(try clear hI;subst e1);have hge:(en:Int)-start+1<=(z:Int):=by
   by_cases y:(en:Int)-start+1<=(z:Int)
   ·exact y
   ·rw[PK (by exact AQ 364302591448617737791554561380433801577 (by kernel_rfl) y)]at hr;exact nC hr
  refine .dp hf (.sub (V:=V) (λa o e=>?_) (.done (q C λp g h1 h2 h3 Z=>hC p g h1 h2 h3 (by omega))));unfold Hp.del;refine AG (if_neg (λy=>by rw[y,CI]at e;exact nS e))<|Lp a o e
noncomputable def Eu(E:C6)(D:Nat->Nat->Int)(en goal p:Nat):Bool:=match Ak E ((p:Int),(goal:Int))with
 |some e=>decide (e+D goal en=D p en)
 |none=>false
noncomputable def MF(E:C6)(D:Nat->Nat->Int)(en:Nat)(YG:List Nat)(goal:Nat):List Nat:=if YG.any (Eu E D en goal)=true then YG++[goal]else YG
noncomputable def reachF(E:C6)(D:Nat->Nat->Int)(start en:Nat):List Nat:=(EV (en-start)).foldl (λF k=>MF E D en F (start+1+k)) [start]
noncomputable abbrev nat(n:Nat):MV:=.int (n:Int)
noncomputable def Lu(E:C6)(goal:Nat)(p:Nat):Bool:=(Ak E ((p:Int),(goal:Int))).isSome
theorem gH:∀{l:List Nat},(l.filter (Lu E goal)).filter (Eu E D en goal)=[]↔l.any (Eu E D en goal)=false
 |[]=>by simp
 |a::l=>by
  obtain ih:=gH (E:=E) (D:=D) (en:=en) (goal:=goal) (l:=l);refine AD XH<|AD H2 ?_
  by_cases h:Lu E goal a=true
  ·refine AD (if_pos h)<|AD H2 ?_
   by_cases h2:Eu E D en goal a=true
   ·refine AD (if_pos h2)<|AD h2 ?_;simp
   ·refine AD (if_neg h2) ?_;rw[eQ]at h2;refine AD h2<|AD (eP ..) ?_;exact ih
  ·refine AD (if_neg h) ?_;have:Eu E D en goal a=false:=by
    unfold Lu at h;unfold Eu;cases e:Ak E ((a:Int),(goal:Int))with
    |none=>rfl
    |some v=>rw[e]at h;simp at h
   refine AD this<|AD (eP ..) ?_;exact ih
theorem AF0{E C:C6}{start en:Nat}{D:Nat->Nat->Int}(hs:start<=en)(F3:en<=12)(H:QA D start en C λZ Z=>True)
 (q:Q (.lst ((reachF E D start en).map nat)) V):Ag w h₀ 1 656 [.dp E,.dp C,.int (start:Nat),.int (en:Nat)] V Q:=by
 refine Ag.cv<|Bg ["edges","costs","start","end"] ["found","goal","ahead"] ["range"] ["edges","costs","end","goal"] [] (by kernel_rfl) (by kernel_rfl) ?_
 refine AA<|JI<|λf nf=>?_
 have CI:=CZ nf;apply AA;let M:Option MV->Option MV->Lc:=λa b=>[("edges",some (.dp E)),("costs",some (.dp C)),("start",some (.int start)),("end",some (.int en)),("found",some (.ref f)),("goal",a),("ahead",b)];let I:List MV->Hp->Lc->Prop:=λAN AE m=>∃(ks:List Nat)(F:List Nat)(a b:Option MV),AN=ks.map (λk=>MV.int ((start+1+k:Nat):Int))/\(∀k∈ks,start+1+k<=en)/\(∀p∈F,start<=p/\p<=en)/\
  reachF E D start en=ks.foldl (λF k=>MF E D en F (start+1+k)) F/\F.length+ks.length<=13/\DE V AE/\AE f=some (.list (F.map nat))/\m=M a b
 refine J7<|AA<|EO I (.D2 _ _ _ Sv (AM 0x11130ff4f2f4f0f21200831c21009100009 rfl hs F3) Sv (Ah 0x1120ff4f2f4f0f21200831c20009 rfl F3)) (λZ Z Z Z Z=>trivial) (λZ Z Z=>trivial) (Ar (EV (en-start)) [start] _ _ (Ip ?_ (λk hk=>by have:=JV.mp hk;exact AQ 0x100105110320101200330002041029 rfl this) (λp hp=>by simp at hp;exact AQ 0x101141100420100100007001049200009 rfl hs hp) rfl (by simp;exact AM 0x1003101015d2100041230c20009 rfl F3) (D6 CI) AS rfl)) ?_ ?_
 ·refine AD (show((start:Int)+1)=((start+1:Nat):Int)by exact Wi)<|AD (show((en:Int)+1)=((en+1:Nat):Int)by exact Wi)<|AD Vg<|AG Fd<|AD (show en+1-(start+1)=en-start by exact AM 0x1003100310131103101311031003100310004121031200344 rfl) ?_
  rfl
 ·intro mv AN AE m hI;refine Bc hI λks F a b hI=>QS hI λhr ID hF hd hl Lp hf e1=>?_;(try clear hI;subst e1);clear hI;cases ks with
  |nil=>exact cN hr
  |cons k ks=>
   simp only[By,Dj]at hr;obtain⟨rfl,rfl⟩:=hr;have hk:=ID k (.head _);rw[DW]at hd;generalize hg:start+1+k=goal at hk hd;have FG:F.length+1+ks.length<=13:=by simp at hl;exact AM 0x112d2101200330d21210300309 rfl hl
   apply Be;intro mz Kz;refine AA<|SJ nat (Lu E goal) nat (.ref _ _ _ hf) hf (by have:=hl;simp at this;exact AM 0x1011418f6faf0f2000d21000309 rfl hl) rfl (λp f3 K' hp kt kf=>?_) ?_
   ·refine AA<|qJ (.inl rfl)<|AA<|Vr (λh=>kt _ h) (λh=>kf _ h)
   generalize hG:F.filter (Lu E goal)=G;obtain hGm:∀p∈G,p∈F/\Lu E goal p=true:=λp hp=>by rw[<-hG]at hp;exact Ez.mp hp
   obtain hGl:G.length<=13:=by refine AD (A0 hG) ?_;have:=QD (Lu E goal) F;exact AQ 0x1001116d2000100009d22010309 rfl hl this
   refine AA<|SJ nat (Eu E D en goal) (λZ=>.int 1) (.lst _ _) trivial (Ah 0x11218f6faf0f2000d20009 rfl hGl) rfl (λp f3 K' hp kt kf=>?_) ?_
   ·have ko:=hGm p hp;have Ur:=hF p ko.1;apply AA;cases he:Ak E ((p:Int),(goal:Int))with
    |none=>have:=ko.2;unfold Lu at this;rw[he]at this;exact fT this
    |some e=>
     refine Nf (.inl rfl) he<|AA<|Nf (v:=D goal en) (.inl rfl) (H goal en (AQ 0x100101610000102012003349 rfl hg) hk (BX _) trivial)<|AA<|Nf (v:=D p en) (.inl rfl) (H p en Ur.1 Ur.2 (BX _) trivial)<|AA<|F6 (λh=>kt _ (by unfold Eu;refine AD he ?_;exact decide_eq_true h)) (λh=>kf _ (by unfold Eu;refine AD he ?_;exact decide_eq_false h))
   obtain e5:XN (λZ=>MV.int 1) (G.filter (Eu E D en goal))=((G.filter (Eu E D en goal)).map λZ=>IP.i 1).map IP.mv:=by refine AD Fd ?_;rfl
   refine AD e5<|AA<|CU<|AA<|J9 ((G.filter (Eu E D en goal)).map λZ=>IP.i 1) [] BY BY ?_
   have key:(G.filter (Eu E D en goal))=[]↔F.any (Eu E D en goal)=false:=by refine AD (A0 hG) ?_;exact gH
   unfold MF at hd;refine AA<|GU (λh=>?_) (λh=>?_)
   ·have h2:F.any (Eu E D en goal)=true:=by
     cases y:F.any (Eu E D en goal)with
     |true=>rfl
     |false=>exact absurd (by refine AD (key.mpr y) ?_;rfl) h
    rw[if_pos h2]at hd;refine AA<|FN (Bi hf)<|AA<|FK hf (by simp;exact AM 0x1011418f6faf0f2000d21000309 rfl hl) ?_
    exact Ar ks (F++[goal]) _ _ (Ip rfl (λu hu=>ID u (.tail _ hu)) (λu hu=>by rcases DX.mp hu with y|y;exact hF u y;have:=D7.mp y;exact Lz 0x101100610000110001b20100100007301049203009304012003349 rfl hg hk this) hd (by simp;exact FG) (bC Lp CI) (by refine AG AS<|AD QE ?_;rfl) rfl)
   ·have h2:F.any (Eu E D en goal)=false:=key.mp (by simpa using h);rw[if_neg (by rw[h2];decide)]at hd;exact Ar ks F _ _ (Ip rfl (λu hu=>ID u (.tail _ hu)) hF hd (AM 0x112d2100030d21012003309 rfl FG) Lp hf rfl)
 ·intro AE m hI;refine Bc hI λks F a b hI=>QS hI λhr ID hF hd hl Lp hf e1=>?_;(try clear hI;subst e1);cases ks with
  |cons k ks=>exact nC hr
  |nil=>
   rw[KO]at hd;refine .list hf (.sub (V:=V) (λa o e=>?_) (.done (by refine AD (A0 hd) ?_;exact q)));unfold Hp.del;refine AG (if_neg (λy=>by rw[y,CI]at e;exact nS e))<|Lp a o e
structure ES(b:AU)(V AE:Hp):Prop where
 box:Gl AE b
 sub:∀a o,a≠b->V a=some o->AE a=some o
theorem ES.refl(h:Gl V b):ES b V V:=⟨h,λZ Z Z e=>e⟩
theorem ES.to(h:ES b V AE)(k:Fp b AE DV):ES b V DV:=by
 refine⟨k.box,λa o n e=>?_⟩
 (refine Ao k λx y AR=>?_;obtain C4:=AR.1;subst C4)
 apply AG (AL n);exact h.sub a o n e
theorem ES.new(h:ES b V AE)(n:AE a=none):ES b V (AE.set a o):=by
 (refine Ao h.box λx y AX=>?_;obtain e:=AX.1;obtain r:=AX.2);have ab:b≠a:=λz=>by rw[z,n]at e;exact nS e
 refine⟨(Aj x y ⟨(by apply AG (AL ab);exact e),r⟩),λc oc nc ec=>?_⟩
 have:=h.sub c oc nc ec
 have ca:c≠a:=λz=>by rw[z,n]at this;exact nS this
 apply AG (AL ca);exact this
theorem ES.upd(h:ES b V AE)(n:V a=none)(ab:b≠a):ES b V (AE.set a o):=by
 (refine Ao h.box λx y A9=>?_;obtain e:=A9.1;obtain r:=A9.2)
 refine⟨(Aj x y ⟨(by apply AG (AL ab);exact e),r⟩),λc oc nc ec=>?_⟩
 have ca:c≠a:=λz=>by rw[z,n]at ec;exact nS ec
 apply AG (AL ca);exact h.sub c oc nc ec
theorem ES.trans(h:ES b V AE)(k:ES b AE DV):ES b V DV:=⟨k.box,λa o n e=>k.sub a o n (h.sub a o n e)⟩
theorem ES.fin(h:ES b V AE)(q:∀DV,Fp b V DV->Q v DV):Cv Q v AE:=by
 (refine Ao h.box λx y Ai=>?_;refine BQ Ai λe r=>?_);refine .sub (V:=V.set b (.list [.int x,.int y])) (λa o ea=>?_) (.done (q _ (Aj x y ⟨rfl,r⟩)))
 unfold Hp.set at ea
 split at ea
 ·rename_i z;subst z;(obtain zI:=Au ea;subst zI);exact e
 ·rename_i z;exact h.sub a o z ea
def Kr(l:List Int):Prop:=∀x∈l,x=97\/x=0\/x=255
theorem aM{le d:Int}(h3:le<=3)(h0:0<=d)(h1:d<le):∃v:Int,([MV.int 97,.int 0,.int 255]:List MV)[d.toNat]? =some (.int v)/\(v=97\/v=0\/v=255):=by
 obtain this:d=0\/d=1\/d=2:=by exact Bd 0x101041010410104101041100051100051100006100101622015120158020158110139010219321119 rfl h3 h0 h1
 rcases this with rfl|rfl|rfl
 ·exact⟨97,⟨rfl,(.inl rfl)⟩⟩
 ·exact⟨0,⟨rfl,(.inr (.inl rfl))⟩⟩
 ·exact⟨255,⟨rfl,(.inr (.inr rfl))⟩⟩
theorem Kr.snoc(h:Kr l)(hv:v=97\/v=0\/v=255):Kr (l++[v]):=λx hx=>by
 rcases DX.mp hx with y|y
 ·exact h x y
 ·rw[D7.mp y];exact hv
theorem Zf{room:Nat}(hb:Gl V b)(h6:2<=room)(HB:room<=12)
 (q:∀t AE,t.length=room->Kr t->Fp b V AE->Q (.bytes t) AE):Ag w h₀ 2 611 [.ref b,.int (room:Nat)] V Q:=by
 refine Ag.cv<|Bg ["box","room"] ["letters","found","begin"] ["_law_take","range","len","bytes"] ["box","letters"] [] (by kernel_rfl) (by kernel_rfl) ?_
 refine Be ?_;intro mz Kz;refine AA<|CU<|AA<|DM hb (by decide) (by decide) λd CC d0 d1 B1=>?_
 obtain⟨le,hle,kZ,Oq⟩:∃le:Int,([MV.int 3,.int 2,.int 3,.int 2,.int 1]:List MV)[d.toNat]? =some (.int le)/\1<=le/\le<=3:=by
  have:d=0\/d=1\/d=2\/d=3\/d=4:=by exact Aw 0x1013101310131013101310131013101310131013101310131013101310131013110041100411004110041100411004110041100411000511000511000511000511000061100006110000071000010742015320158220158120158020158520139010219 rfl d0 d1
  rcases this with rfl|rfl|rfl|rfl|rfl
  ·exact⟨3,(AO rfl (by decide) (by decide))⟩
  ·exact⟨2,(AO rfl (by decide) (by decide))⟩
  ·exact⟨3,(AO rfl (by decide) (by decide))⟩
  ·exact⟨2,(AO rfl (by decide) (by decide))⟩
  ·exact⟨1,(AO rfl (by decide) (by decide))⟩
 refine AA<|CR BY d0 (Aw 0x11280f0f0f0f0f0f0f0f0f0f0f0f0f0f0f2013520139 rfl d1) hle ?_
 have S1:=(ES.refl hb).to B1;refine AA<|DM S1.box (by decide) (by decide) λd2 Bf HY HZ B2=>?_
 obtain S2:=S1.to B2;refine AA<|SK<|AA<|bT (λAN l AE=>∃L:List Int,l=L.map .int/\L.length+AN.length=(2+d2).toNat/\Kr L/\ES b V AE) (.D2 _ _ _ Sy Sz (Aw 0x112012230ff4f2f4f0f251010219 rfl HY) (Aw 0x1120ff4f2f4f0f2012231220139 rfl HZ)) (λZ Z Z Z Z=>trivial) (λZ Z Z=>trivial) (⟨([]),(BR rfl (by simp[BP]) (λx hx=>(by cases hx)) S2)⟩) rfl (λmv AN l DC f hI=>?_) (λl DC hI a na=>.done ?_)
 ·(refine AI hI λL A5=>?_;refine G5 A5 λEx hl hL S3=>?_;subst Ex);refine Be ?_;intro mz Kz;refine AA<|CU<|AA<|DM S3.box (Aw 4820328282919449 rfl kZ) (rJ Oq) λd3 LC Iu Jd B3=>?_
  (refine AI (aM Oq Iu Jd) λv A2=>?_;refine BQ A2 λhv Ox=>?_);apply Be;intro mz Kz;refine AA<|CR BY Iu (rK Oq Jd) hv<|⟨(by simp;simp at hl;exact Bm 0x101010071010101718f6faf0f20000122391210300349220139 rfl HZ hl),⟨(L++[v]),(BR (by simp) (by simp at hl|-;exact Bm 0x101005100105101015110105111000071101051010051001050122391012003340122391210300349 rfl hl) (hL.snoc Ox) (S3.to B3))⟩⟩
 (refine AI hI λL BC=>?_;refine G5 BC λK4 hl hL S3=>?_;subst K4);have S4:=S3.new (o:=.list (L.map .int)) (CZ na);have j0:(DC.set a (.list (L.map .int))) a=some (.list (L.map .int)):=AS;have He:V a=none:=by
  cases e:V a with
  |none=>rfl
  |some o=>
   exfalso;have:a≠b:=λz=>by(refine Ao S3.box λx y Bx=>?_;refine BQ Bx λe2 Z=>?_);rw[<-z,CZ na]at e2;exact nS e2
   have:=S3.sub a o this e
   rw[CZ na]at this;exact nS this
 obtain ab:b≠a:=λz=>by(refine Ao S3.box λx y CB=>?_;refine BQ CB λe2 Z=>?_);rw[z,CZ na]at e2;exact nS e2
 have E7:2<=L.length/\L.length<=3:=by simp at hl;exact Bp 0x1013101310101061100016320000022070122390049220139010219 rfl HY HZ hl
 generalize DC.set a (.list (L.map .int))=LC at S4 j0;apply Be;intro mz Kz;apply AA;let M:MV->Option MV->Lc:=λa c=>[("box",some (.ref b)),("room",some (.int room)),("letters",some (.int le)),("found",some a),("begin",c)];let J:Nat->Hp->Lc->Prop:=λn AE m=>∃(F:List Int)(p:AU)(c:Option MV),n=20-F.length/\2<=F.length/\F.length<=17/\Kr F/\ES b V AE/\AE p=some (.list (F.map .int))/\V p=none/\b≠p/\m=M (.ref p) c;refine J8 J (20-L.length) (BK L a _ (UB rfl E7.1 (Ah 0x110311f2000320000022079 rfl E7) hL S4 j0 He ab rfl))<|λn Ny m hJ=>A1 hJ λF p c hJ=>QT hJ λhn Qz Kb hF S5 hp Es bp e1=>?_
 subst e1;apply Be;intro mz Kz;refine AA<|J5 (Bi hp) (by simp;exact Ah 0x1120ff4f2f4f0f200011f20009 rfl Kb)<|AA<|BW (λhg=>?_) (λhg=>?_)
 ·simp only[Fc]at hg;refine AA<|DM S5.box (by decide) (by decide) λd3 KD Iu Jd B6=>?_
  have Us:KD p=some (.list (F.map .int)):=by(refine Ao B6 λx y Bj=>?_;obtain JL:=Bj.1;subst JL);apply AG (AL bp.symm);exact hp
  have S6:=S5.to B6;apply Be;intro mz Kz;refine AA<|BW (λhz=>?_) (λhz=>?_)
  ·refine AA<|J5 (Bi Us) (by simp;exact Ah 0x1120ff4f2f4f0f200011f20009 rfl Kb) ?_
   refine AA<|DM S6.box (by refine AD (Fc ..) ?_;exact Ah 77124693961744905 rfl Qz) (by refine AD (Fc ..) ?_;exact Ah 0x11210f0f0f0f0f0f0f0f0f0f0f0f0f0f0f2008311f20009 rfl Kb) λbg S9 b0 b1 B7=>?_
   rw[Fc]at b1;have Y5:S9 p=some (.list (F.map .int)):=by(refine Ao B7 λx y Cb=>?_;obtain JM:=Cb.1;subst JM);apply AG (AL bp.symm);exact Us
   have S7:=S6.to B7;apply Be;intro mz Kz;refine AA<|DM S7.box (by decide) (by decide) λd4 Wv iE wq B8=>?_
   have ku:Wv p=some (.list (F.map .int)):=by(refine Ao B8 λx y Bt=>?_;obtain JN:=Bt.1;subst JN);apply AG (AL bp.symm);exact Y5
   have S8:=S7.to B8;apply Be;intro mz Kz;refine AA<|Ng (Bi ku) (by simp;exact dh Kb) (λi e=>(by(have zI:=Au e;subst zI);exact b0)) (λi e=>(by(have zI:=Au e;subst zI);exact Bd 0x111311220133021110219010219 rfl b0 iE)) ?_
   have Y8:A3 (F.map MV.int) (some bg) (some (bg+2+d4))=(A3 F (some bg) (some (bg+2+d4))).map .int:=by simp[A3,fR,Tf]
   refine AD Y8 ?_;have Uv:1<=(A3 F (some bg) (some (bg+2+d4))).length/\(A3 F (some bg) (some (bg+2+d4))).length<=5:=by
    simp only[A3,fh,Mn,Mo];exact Dv 0x10000000091010151000000009101015100000000910000000091000000009100000001910000000091011010009100000000910010100091000000009101001000910000000091000010009101015101015100000108100000010910101510101510101510101510000011810000001191000001081000000109100001018100000101910000100810000010095201900112201339a4001900112201339a412074211391102190080139010219 rfl b0 b1 iE wq
   have Jm:Kr (A3 F (some bg) (some (bg+2+d4))):=λx hx=>hF x (aS hx);generalize A3 F (some bg) (some (bg+2+d4))=PS at Uv Jm;refine AA<|bS (Bi ku) BY (by simp;exact AM 0x1101418f6faf0f210003052100101207911f20009 rfl Kb Uv) λr nr=>?_
   have VP:=CZ nr;have hr0:V r=none:=by
    cases e:V r with
    |none=>rfl
    |some o=>
     exfalso;obtain rb:r≠b:=λz=>by(refine Ao S8.box λx y Ct=>?_;refine BQ Ct λe2 Z=>?_);rw[<-z,VP]at e2;exact nS e2
     have:=S8.sub r o rb e
     rw[VP]at this;exact nS this
   obtain br:b≠r:=λz=>by(refine Ao S8.box λx y Dg=>?_;refine BQ Dg λe2 Z=>?_);rw[z,VP]at e2;exact nS e2
   exact⟨(20-(F++PS).length),⟨(by simp;exact AQ 0x1001410014100011008100101008201000314f24252100101207911f200090014f242049 rfl hn Kb Uv),(BK (F++PS) r _ (UB rfl (by simp;exact AM 0x1011410003220002209 rfl Qz) (by simp;exact AQ 0x11011511f210003052100101207920800839c22009 rfl HB hg Uv) (λx hx=>by rcases DX.mp hx with y|y;exact hF x y;exact Jm x y) (S8.new VP) (by rw[AS,QE]) hr0 br rfl))⟩⟩
  ·apply Be;intro mz Kz;refine AA<|FN (Bi Us)<|AA<|CU<|AA<|DM S6.box (Aw 4820328282919449 rfl kZ) (rJ Oq) λd7 S9 iF iG B7=>?_
   have Y5:S9 p=some (.list (F.map .int)):=by(refine Ao B7 λx y Ec=>?_;obtain Se:=Ec.1;subst Se);apply AG (AL bp.symm);exact Us
   have S7:=S6.to B7;(refine AI (aM Oq iF iG) λv FQ=>?_;refine BQ FQ λhv Ox=>?_);apply Be;intro mz Kz;refine AA<|CR BY iF (rK Oq iG) hv<|AA<|FK Y5 (by simp;exact dh Kb) ?_
   exact⟨(20-(F++[v]).length),⟨(by simp;exact AM 0x10014100141100051001006100013f24211f200090014f241049 rfl hn Kb),(BK (F++[v]) p _ (UB rfl (by simp;exact Ah 4820263808016905 rfl Qz) (by simp;exact AM 0x111310f200010800839c21009 rfl HB hg) (hF.snoc Ox) (S7.upd Es bp) (by refine AG AS<|AD QE ?_;rfl) Es bp rfl))⟩⟩
 ·simp only[Fc]at hg;refine AA<|Ng (Bi hp) (by simp;exact dh Kb) (λi e=>(nS e)) (λi e=>(by(have zI:=Au e;subst zI);exact ER)) ?_
  have Y8:A3 (F.map MV.int) none (some (room:Int))=(F.take room).map .int:=by simp[A3,Tf]
  refine AD Y8<|AA<|Ag9 BY (λx hx=>?_) (by simp;exact AM 0x1113101318f6faf0f21000a0c20009 rfl HB) ?_
  ·have:=hF x (Tg hx);exact rL this
  ·skip;exact S5.fin λDV B=>q _ _ (by simp;exact AM 0x1013110310031003001000a4008108369 rfl hg) (λx hx=>hF x (Tg hx)) B
theorem zA:Gm 244 "add" 241:=gm rfl
theorem ym:Gc 244 234:=gc rfl
theorem YK:Ga 244 "literals":=ga rfl
theorem Ub:Ga 244 "lengths":=ga rfl
theorem Ua:Ga 244 "distances":=ga rfl
theorem zo:Gs 244 "literals":=gs rfl
theorem zm:Gs 244 "lengths":=gs rfl
theorem zj:Gs 244 "distances":=gs rfl
def M4(l:List (Int×Int)):Prop:=∀x∈l,(x.1=0/\0<=x.2/\x.2<=255)\/(2<=x.1/\x.1<=20/\1<=x.2/\x.2<=20)
theorem wH(h:M4 l)(q:Q .none V):Ag w h₀ 1 73 [.lst (l.map pv)] V Q:=by
 obtain⟨tL,hL⟩:=Ro w.params;apply Bg ["steps"] ["first","second"] ["LEAST_MATCH"] [] [] (by kernel_rfl) (by kernel_rfl);let M:Option MV->Option MV->Lc:=λa b=>[("steps",some (.lst (l.map pv))),("first",a),("second",b)];let I:List MV->Hp->Lc->Prop:=λAN AE m=>∃(xs:List (Int×Int))(a b:Option MV),AN=xs.map pv/\M4 xs/\AE=V/\m=M a b;refine AA<|EO I (.lst _ _) (λZ Z Z Z Z=>trivial) (λZ Z Z=>trivial) (BK l _ _ (BR rfl h rfl rfl)) ?_ ?_
 ·intro mv AN AE m hI;apply A1 hI;try clear hI;intro xs a b hI
  obtain hr:=hI.1;obtain hx:=hI.2.1;obtain e1:=hI.2.2.1;obtain e2:=hI.2.2.2;subst e1 e2;cases xs with
  |nil=>exact cN hr
  |cons x xs=>
   simp only[By,Dj]at hr;obtain⟨rfl,rfl⟩:=hr;obtain NL:=hx x (.head _);obtain Dd:=λy hy=>hx y (.tail _ hy);rcases NL with⟨z0,z1,z2⟩|⟨z1,z2,z3,z4⟩
   ·apply Be;intro mz Kz;refine AA<|F6 (λZ=>?_) (λh=>absurd z0 h)
    refine AA<|BW (λZ=>?_) (λh=>absurd z1 h)
    refine AA<|GU (λh=>absurd z2 h) (λZ=>?_)
    refine AA<|NY (λh=>absurd z0 h) (λZ=>?_)
    refine AA<|De<|BK xs _ _ (BR rfl Dd rfl rfl)
   ·refine AA<|F6 (λh=>by exact C5 (Wj z1 h)) (λh=>?_)
    refine AA<|De<|AA<|NY (λZ=>?_) (λh=>by exact C5 (Wj z1 h))
    refine AA<|BW (λh=>by exact C5 (Aw 0x112a220139012219 rfl z1 h)) (λZ=>?_)
    exact BK xs _ _ (BR rfl Dd rfl rfl)
 ·intro AE m hI;apply A1 hI;try clear hI;intro xs a b hI
  obtain hr:=hI.1;obtain hx:=hI.2.1;obtain e1:=hI.2.2.1;obtain e2:=hI.2.2.2;subst e1 e2;apply Be;intro mz Kz;refine AA<|EO I (.lst _ _) (λZ Z Z Z Z=>trivial) (λZ Z Z=>trivial) (BK l _ _ (BR rfl h rfl rfl)) ?_ ?_
  ·intro mv AN AE m hI;apply A1 hI;try clear hI;intro xs a b hI
   obtain hr:=hI.1;obtain hx:=hI.2.1;obtain e1:=hI.2.2.1;obtain e2:=hI.2.2.2;subst e1 e2;cases xs with
   |nil=>exact cN hr
   |cons x xs=>
    simp only[By,Dj]at hr;obtain⟨rfl,rfl⟩:=hr;obtain NL:=hx x (.head _);obtain Dd:=λy hy=>hx y (.tail _ hy);rcases NL with⟨z0,z1,z2⟩|⟨z1,z2,z3,z4⟩
    ·apply Be;intro mz Kz;refine AA<|NY (λh=>absurd z0 h) (λZ=>?_)
     refine AA<|De<|BK xs _ _ (BR rfl Dd rfl rfl)
    ·refine AA<|NY (λZ=>?_) (λh=>by exact C5 (Wj z1 h))
     refine AA<|BW (λh=>by exact C5 (Aw 0x112a120139011219 rfl z3 h)) (λZ=>?_)
     exact BK xs _ _ (BR rfl Dd rfl rfl)
  ·intro AE m hI;apply A1 hI;try clear hI;intro xs a b hI
   obtain hr:=hI.1;obtain hx:=hI.2.1;obtain e1:=hI.2.2.1;obtain e2:=hI.2.2.2;subst e1 e2;exact q
noncomputable abbrev cntK:List AV:=["literals","lengths","distances"]
structure P6(V:Hp)(x d li le di:AU)(LI:List Int)(LE DI:List (Int×Int))(n:Nat):Prop where
 inst:V x=some (.inst 244 d cntK [.ref li,.ref le,.ref di])
 lits:V li=some (.list (LI.map .int))
 O8:V le=some (.di LE)
 dist:V di=some (.di DI)
 l1:LI.length=256
 l2:∀v∈LI,0<=v/\v<=n
 l3:LE.length<=n/\DI.length<=n/\(LI.filter λc=>decide (0<c)).length<=n
 l4:∀k v,Ak LE k=some v->2<=k/\k<=20/\0<=v/\v<=n
 l5:∀k v,Ak DI k=some v->1<=k/\k<=20/\0<=v/\v<=n
 ne:li≠x/\le≠x/\di≠x/\le≠li/\di≠li/\di≠le
theorem wX(hx:V x=some (.inst 244 d [] []))
 (q:∀li le di AE,V li=none->V le=none->V di=none->(∀a,a≠x->a≠li->a≠le->a≠di->∀o,V a=some o->AE a=some o)->P6 AE x d li le di (CD 256 0) [] [] 0->Q .none AE):Ag w h₀ 1 234 [.ref x] V Q:=by
 refine Bg ["self"] [] [] [] [] (by kernel_rfl) (by kernel_rfl)<|AA<|CU<|AA<|Pd (x:=.int 0) BY (by decide) (by decide) λli nD=>?_
 have n1:=CZ nD
 have Pk:x≠li:=λz=>by rw[z,n1]at hx;exact nS hx
 have x1:(V.set li (.list (CD (KN 256) (.int 0)))) x=some (.inst 244 d [] []):=by apply AG (AL Pk);exact hx
 have l1:(V.set li (.list (CD (KN 256) (.int 0)))) li=some (.list ((CD 256 (0:Int)).map .int)):=by refine AG AS<|AD List.map_replicate ?_;rfl
 have k1:DE V (V.set li (.list (CD (KN 256) (.int 0)))):=bB nD
 generalize V.set li (.list (CD (KN 256) (.int 0)))=CC at x1 l1 k1
 refine AA<|Df x1 zo (by decide) ?_
 have x2:(CC.set x (.inst 244 d (DY [] (CL "literals")) (Ds [] [] (CL "literals") (.ref li)))) x=some (.inst 244 d ["literals"] [.ref li]):=AS
 have l2:(CC.set x (.inst 244 d (DY [] (CL "literals")) (Ds [] [] (CL "literals") (.ref li)))) li=some (.list ((CD 256 (0:Int)).map .int)):=by apply AG (AL Pk.symm);exact l1
 have k2:∀a o,a≠x->V a=some o->(CC.set x (.inst 244 d (DY [] (CL "literals")) (Ds [] [] (CL "literals") (.ref li)))) a=some o:=λa o n e=>by apply AG (AL n);exact k1 a o e
 generalize CC.set x (.inst 244 d (DY [] (CL "literals")) (Ds [] [] (CL "literals") (.ref li)))=Bf at x2 l2 k2
 refine AA<|Pc λle nle=>?_
 have n2:=CZ nle
 have Pj:x≠le:=λz=>by rw[z,n2]at x2;exact nS x2
 have Zt:li≠le:=λz=>by rw[z,n2]at l2;exact nS l2
 have Rj:V le=none:=by
  cases e:V le with
  |none=>rfl
  |some o=>have:=k2 le o Pj.symm e;rw[n2]at this;exact nS this
 refine AA<|Df ((by apply AG (AL Pj);exact x2)) zm (by decide) ?_
 refine AA<|Pc λdi ndi=>?_
 have n3:=CZ ndi
 have SR:x≠di:=λz=>by rw[z,AS]at n3;exact sN n3
 have Zj:le≠di:=λz=>by rw[<-z,AL Pj.symm,AS]at n3;exact sN n3
 have mH:li≠di:=λz=>by rw[<-z,AL Pk.symm,AL Zt,l2]at n3;exact sN n3
 have n3':V di=none:=by
  cases e:V di with
  |none=>rfl
  |some o=>
   have:=k2 di o SR.symm e
   rw[AL SR.symm,AL Zj.symm,this]at n3;exact sN n3
 refine AA<|Df ((AG (AL SR) AS)) zj (by decide)<|q li le di _ n1 Rj n3' (λa h1 h2 h3 h4 o e=>?_) ⟨AS,?_,?_,?_,by simp,λv hv=>?_,(AO (by simp) (by simp) (by simp)),(λk v e=>by exact nS e),(λk v e=>by exact nS e),(Cc Pk.symm Pj.symm SR.symm Zt.symm mH.symm Zj.symm)⟩
 ·refine AG (AL h1)<|AG (AL h4)<|AG (AL h1)<|AG (AL h3) ?_;exact k2 a o h1 e
 ·refine AG (AL Pk.symm)<|AG (AL mH)<|AG (AL Pk.symm)<|AG (AL Zt) ?_;exact l2
 ·exact AG (AL Pj.symm)<|AG (AL Zj)<|AG (AL Pj.symm) AS
 ·exact AG (AL SR.symm) AS
 ·rw[List.mem_replicate]at hv;exact Aw 0x11111010411004028011010217020150210f0f24679 rfl hv
theorem wW(q:∀x d li le di AE,(∀a∈[x,li,le,di],V a=none)->DE V AE->P6 AE x d li le di (CD 256 0) [] [] 0->Q (.ref x) AE):Ag w h₀ 2 244 [] V Q:=by
 refine Jg (ym _) λx d nx nd ne=>?_
 have I':=CZ nx
 refine wX AS λli le di AE n1 n2 n3 k S=>⟨rfl,?_⟩
 have h1:li≠x:=S.ne.1
 have h2:le≠x:=S.ne.2.1
 have h3:di≠x:=S.ne.2.2.1
 rw[AL h1]at n1
 rw[AL h2]at n2
 rw[AL h3]at n3
 refine q x d li le di AE (λa ha=>?_) (λa o e=>?_) S
 ·simp only[CH,Fe,or_false]at ha
  rcases ha with rfl|rfl|rfl|rfl<;>assumption
 ·have ax:a≠x:=neN e I'
  exact k a ax (neN e n1) (neN e n2) (neN e n3) o (by apply AG (AL ax);exact e)
theorem iw:∀{l:List Int}{i:Nat},((l.set i v).filter λc=>decide (0<c)).length<=(l.filter λc=>decide (0<c)).length+1
 |[],i=>by simp
 |a::l,0=>by simp only[t5,H2];split<;>split<;>simp<;>exact Ah 300308945383424 rfl
 |a::l,i+1=>by
  have:=iw (v:=v) (l:=l) (i:=i);simp only[t4,H2];split<;>simp<;>exact this
theorem wV(S:P6 V x d li le di (CD 256 0) [] [] 0)(h:M4 l)(hz:l.length<=10)
 (q:∀AE LI LE DI,(∀a,a≠li->a≠le->a≠di->AE a=V a)->P6 AE x d li le di LI LE DI 10->Q .none AE):Ag w h₀ 2 241 [.ref x,.lst (l.map pv)] V Q:=by
 refine Bg ["self","steps"] ["first","second"] ["check_steps"] [] [] (by kernel_rfl) (by kernel_rfl)<|AA<|wH h<|AA ?_
 let M:Option MV->Option MV->Lc:=λa b=>[("self",some (.ref x)),("steps",some (.lst (l.map pv))),("first",a),("second",b)]
 let I:List MV->Hp->Lc->Prop:=λAN AE m=>∃(xs:List (Int×Int))(LI:List Int)(LE DI:List (Int×Int))(k:Nat)(a b:Option MV),AN=xs.map pv/\M4 xs/\k+xs.length<=10/\P6 AE x d li le di LI LE DI k/\(∀a,a≠li->a≠le->a≠di->AE a=V a)/\m=M a b
 refine EO I (.lst _ _) (λZ Z Z Z Z=>trivial) (λZ Z Z=>trivial) (Gi l _ _ _ 0 _ _ (Cc rfl h (Ah 0x112a2000230a20009 rfl hz) S (λZ Z Z Z=>rfl) rfl)) ?_ ?_
 ·intro mv AN AE m hI
  refine LY hI λxs LI LE DI k a b hI=>Em hI λhr hx hk S' fr e1=>?_
  (try clear hI;subst e1)
  clear hI
  cases xs with
  |nil=>exact cN hr
  |cons y xs=>
   simp only[By,Dj]at hr
   obtain⟨rfl,rfl⟩:=hr
   obtain hy:=hx y (.head _)
   obtain Dd:M4 xs:=λz hz=>hx z (.tail _ hz)
   obtain Oj:k+1+xs.length<=10:=by simp at hk;exact dj hk
   obtain ii:EI AE (.ref x) 244 cntK [.ref li,.ref le,.ref di]:=.inr (Aj x d ⟨rfl,S'.inst⟩)
   (refine Em S'.ne λne1 ne2 ne3 ne4 ne5 PE=>?_)
   obtain L1:=S'.l1
   apply Be;intro mz Kz;apply AA
   rcases hy with⟨z0,z1,z2⟩|⟨z1,z2,z3,z4⟩
   ·skip
    refine F6 (λZ=>?_) (λh=>absurd z0 h)
    refine AA<|Ax ii YK rfl<|AA<|CR (x:=.int (LI.getD y.2.toNat 0)) (Bi S'.lits) z1 (rM z2) (by(refine AG (EU) ?_;rw[Ej];refine AD (Ee (Bp 0x1001051011050001920ffff2011910f0f20049 rfl L1 z2)) ?_);rfl) ?_
    refine AA<|Ax ii YK rfl<|AA<|J' S'.lits z1 (rM z2) (by simp;exact Bp 0x111040080130ffff2011910f0f20049 rfl L1 z2) ?_
    obtain hv0:=S'.l2 (LI.getD y.2.toNat 0) (by(rw[Ej];refine AD (Ee (Bp 0x1001051011050001920ffff2011910f0f20049 rfl L1 z2)) ?_);exact N_ _)
    refine Gi xs (LI.set y.2.toNat (LI.getD y.2.toNat 0+1)) LE DI (k+1) _ _ (Cc rfl Dd Oj ⟨by rw[AL ne1.symm];exact S'.inst,by rw[AS,Te],by rw[AL ne4];exact S'.O8,by rw[AL ne5];exact S'.dist,by rw[fQ];exact L1,λv hv=>?_,(AO (by obtain this:=S'.l3.1;exact HP this) (by obtain this:=S'.l3.2.1;exact HP this) (by obtain this:=iw (l:=LI) (i:=y.2.toNat) (v:=LI.getD y.2.toNat 0+1);obtain this:=S'.l3.2.2;exact Sr (by assumption) this)),λj v e=>by obtain this:=S'.l4 j v e;exact rO this,λj v e=>by obtain this:=S'.l5 j v e;exact rQ this,S'.ne⟩ (λa h1 h2 h3=>by rw[AL h1];exact fr a h1 h2 h3) rfl)
    rcases XR hv with e|e
    ·obtain this:=S'.l2 v e;exact Bp 0x110310131200380110102170080110102179 rfl this
    ·exact Dv 0x1011051100151200380110102171211301590081111102179 rfl hv0 e
   ·skip
    refine F6 (λh=>by exact C5 (Wj z1 h)) (λh=>?_)
    refine AA<|Ax ii Ub rfl<|AA<|Kw (.inr ⟨_,⟨rfl,S'.O8⟩⟩)<|AA<|w_get (.inr ⟨_,⟨rfl,S'.O8⟩⟩)<|AA<|Ax ii Ub rfl<|AA<|Ni S'.O8 (by obtain this:=S'.l3.1;exact AQ 0x100111618f6faf0f2000100009a22012103309 rfl Oj this) ?_
    apply AA
    obtain RH:EI (AE.set le (.di (dput LE y.1 ((Ak LE y.1).getD 0+1)))) (.ref x) 244 cntK [.ref li,.ref le,.ref di]:=.inr (Aj x d ⟨rfl,(by apply AG (AL ne2.symm);exact S'.inst)⟩)
    obtain hd2:(AE.set le (.di (dput LE y.1 ((Ak LE y.1).getD 0+1)))) di=some (.di DI):=by apply AG (AL PE);exact S'.dist
    refine Ax RH Ua rfl<|AA<|Kw (.inr ⟨_,⟨rfl,hd2⟩⟩)<|AA<|w_get (.inr ⟨_,⟨rfl,hd2⟩⟩)<|AA<|Ax RH Ua rfl<|AA<|Ni hd2 (by obtain this:=S'.l3.2.1;exact AQ 0x100111618f6faf0f2000100009a22012103309 rfl Oj this) ?_
    have RA:0<=(Ak LE y.1).getD 0/\(Ak LE y.1).getD 0<=k:=by
     cases e:Ak LE y.1 with
     |none=>simp
     |some v=>obtain this:=S'.l4 _ v e;simp;exact Dv 0x11000510100500801101021700801101021714f211171122179 rfl this
    have Uw:0<=(Ak DI y.2).getD 0/\(Ak DI y.2).getD 0<=k:=by
     cases e:Ak DI y.2 with
     |none=>simp
     |some v=>obtain this:=S'.l5 _ v e;simp;exact Dv 0x11000510100500801101021700801101021714f211171112179 rfl this
    obtain Om:=G9 (l:=LE) (k:=y.1) (v:=(Ak LE y.1).getD 0+1)
    obtain E7:=G9 (l:=DI) (k:=y.2) (v:=(Ak DI y.2).getD 0+1)
    refine Gi xs LI (dput LE y.1 ((Ak LE y.1).getD 0+1)) (dput DI y.2 ((Ak DI y.2).getD 0+1)) (k+1) _ _ (Cc rfl Dd Oj ⟨by refine AG (AL ne3.symm)<|AG (AL ne2.symm) ?_;exact S'.inst,by refine AG (AL ne5.symm)<|AG (AL ne4.symm) ?_;exact S'.lits,by exact AG (AL PE.symm) AS,by exact AS,L1,λv hv=>by obtain this:=S'.l2 v hv;exact Bp 0x110310131200380110102170080110102179 rfl this,(AO (by obtain this:=S'.l3.1;exact Sr Om this) (by obtain this:=S'.l3.2.1;exact Sr E7 this) (by obtain this:=S'.l3.2.2;exact HP this)),λj v e=>?_,λj v e=>?_,S'.ne⟩ (λa h1 h2 h3=>by refine AG (AL h3)<|AG (AL h2) ?_;exact fr a h1 h2 h3) rfl)
    ·rw[Je]at e
     split at e
     ·rename_i w;(obtain zI:=Au e;subst zI);exact RQ 0x1001000710001007110001071010001712003812113112113021714f20117012217012159008111110217914f22119212219 rfl z1 z2 RA w
     ·obtain this:=S'.l4 j v e;exact rO this
    ·rw[Je]at e
     split at e
     ·rename_i w;(obtain zI:=Au e;subst zI);exact RQ 0x1001000710001007110001071010001712003812113112113021714f20117011217012159008111110217914f22119211219 rfl z3 z4 Uw w
     ·obtain this:=S'.l5 j v e;exact rQ this
 ·intro AE m hI
  refine LY hI λxs LI LE DI k a b hI=>Em hI λhr hx hk S' fr e1=>?_
  (try clear hI;subst e1)
  exact q AE LI LE DI fr ⟨S'.inst,S'.lits,S'.O8,S'.dist,S'.l1,λv hv=>by obtain this:=S'.l2 v hv;exact Bm 0x101101610104a280110102170080110102179a21000309 rfl hk this,(AO (by obtain this:=S'.l3.1;exact dk hk this) (by obtain this:=S'.l3.2.1;exact dk hk this) (by obtain this:=S'.l3.2.2;exact dk hk this)),λj v e=>by obtain this:=S'.l4 j v e;exact D0 0x101100018101000610010061000106a2811111021714f2011701221700811111021714f201170122179a21000309 rfl hk this,λj v e=>by obtain this:=S'.l5 j v e;exact D0 0x101100018101000610010061000106a2811111021714f2011701121700811111021714f201170112179a21000309 rfl hk this,S'.ne⟩
structure W4(a:MV)(LI:List Int)(LE DI:List (Int×Int)):Prop where
 e:a=.ins 244 cntK [.lst (LI.map .int),.di LE,.di DI]
 l1:LI.length=256
 l2:∀v∈LI,0<=v/\v<=10
 l3:LE.length<=10/\DI.length<=10/\(LI.filter λc=>decide (0<c)).length<=10
 l4:∀k v,Ak LE k=some v->2<=k/\k<=20/\0<=v/\v<=10
 l5:∀k v,Ak DI k=some v->1<=k/\k<=20/\0<=v/\v<=10
theorem RS.deep(r:RS w h₀ D h V)(e:V a=some mo)(hx:V x=some (.inst c d ks vs))(ne:x≠a):
 RS w h₀ (λb=>D b/\¬(b=a\/DQ mo=some b)) h ((V.del a).set x (.inst c d ks (vs.map (DA a (E6 mo)))))/\
  Step Ff D h V (λb=>D b/\¬(b=a\/DQ mo=some b)) h ((V.del a).set x (.inst c d ks (vs.map (DA a (E6 mo))))):=by
 obtain fz:=r.freeze e;obtain fr:=jI r e;obtain II:(V.del a) x=some (.inst c d ks vs):=by unfold Hp.del;apply AG (if_neg ne);exact hx
 (obtain qX:=(fz.1.obj x _ II);obtain g:=qX.2.1;obtain AR:=qX.2.2;refine Ao AR λes n Af=>?_;obtain gd:=Af.1;obtain ak:=Af.2.1;obtain rv:=Af.2.2);obtain up:=fz.1.upd (CS:=.inst c d ks (vs.map (DA a (E6 mo)))) (b:=d) (h':=h) II rfl rfl (λZ Z Z q=>q) ⟨g,(Aj es n (AO gd ak (pE fr rv)))⟩;exact⟨up.1,fz.2.trans r.live up.2⟩
inductive Cw (Q:MV->Hp->Prop):MV->Hp->Prop
 |cv {v V}:Cv Q v V->Cw Q v V
 |deep {v V a x c d ks vs mo}:V a=some mo->V x=some (.inst c d ks vs)->x≠a->v=.ref x->Cw Q v ((V.del a).set x (.inst c d ks (vs.map (DA a (E6 mo)))))->Cw Q v V
theorem Cw.NW(c:Cw Q mv V):∀{D},RS w h₀ D s'.heap V->Step Ff LD s.heap KG D s'.heap V->(∀a,LD a->∃o,s.heap.get? a=some o)->CV s s'->VR w D s'.heap mv v->QL w h₀ LD s KG Q v s':=by
 induction c with
 |cv q=>exact λ{D} r st lv sr hv=>Cv.NW q r st lv sr hv
 |deep e hx ne ev _ ih=>
  intro D r st lv sr hv;subst ev;simp only[AZ]at hv;exact ih (r.deep e hx ne).1 (st.trans lv (r.deep e hx ne).2) lv sr (by simp only[AZ];exact hv)
theorem Ag.cw(h:Ag w h₀ n f args V (Cw Q)):Ag w h₀ n f args V Q:=λA s D vs a b c d=>LV (h A s D vs a b c d) λr s' p=>by
 rcases r with e|(v|_|_|_)<;>first|exact p.elim|exact((by(refine A1 p λmv AE D' AR=>?_;obtain h1:=AR.1;obtain h2:=AR.2.1;obtain h3:=AR.2.2.1;obtain h4:=AR.2.2.2.1;obtain h5:=AR.2.2.2.2);exact Cw.NW h5 h1 h2 c.live h3 h4))
theorem wk(h:M4 l)(hz:l.length<=10)(q:∀a LI LE DI,W4 a LI LE DI->Q a V):Ag w h₀ 4 255 [.lst (l.map pv)] V Q:=by
 refine Ag.cw<|Bg ["steps"] ["found"] ["Counts"] [] [] (by kernel_rfl) (by kernel_rfl) ?_
 refine AA<|wW λx d li le di CC n1 s1 S1=>AA<|Bw (.inr (Aj x d ⟨rfl,S1.inst⟩)) (by decide) zA<|AA<|wV S1 h hz λBf LI LE DI fr S2=>?_
 (obtain Pm:=S2.ne;obtain ne1:=Pm.1;obtain ne2:=Pm.2.1;obtain ne3:=Pm.2.2.1;obtain ne4:=Pm.2.2.2.1;obtain ne5:=Pm.2.2.2.2.1;obtain PE:=Pm.2.2.2.2.2);obtain nx:=n1 x (by simp);obtain nl:=n1 li (by simp);obtain ne':=n1 le (by simp);obtain nd:=n1 di (by simp);refine .deep S2.lits S2.inst ne1.symm rfl<|.deep (a:=le) (x:=x) (mo:=.di LE) (by apply AG (AL ne2);unfold Hp.del;apply AG (if_neg ne4);exact S2.O8) AS ne2.symm rfl ?_
 refine .deep (a:=di) (x:=x) (mo:=.di DI) (by apply AG (AL ne3);unfold Hp.del;refine AG (if_neg PE)<|AG (AL ne3)<|AG (if_neg ne5) ?_;exact S2.dist) AS ne3.symm rfl ?_;refine .cv (.inst AS (.sub (V:=V) (λa o e=>?_) (.done (q _ LI LE DI ⟨?_,S2.l1,S2.l2,S2.l3,S2.l4,S2.l5⟩))))
 ·obtain ax:=neN e nx;obtain al:=neN e nl;obtain ae:=neN e ne';obtain ad:=neN e nd;simp only[Hp.del,Hp.set,ax,al,ae,ad,if_false];apply AG (fr a al ae ad);exact s1 a o e
 ·simp[PV,E6,ne4,ne5,PE,HU ne4,HU ne5,HU PE]
theorem AY.ints:∀{ns:List Int}{vs:List Ap},XE vs ns->AY w D h (ns.map .int) vs
 |[],[],_=>trivial
 |n::ns,v::vs,x=>by
  cases x with
  |cons _ a b=>
   simp only[By,BD,AZ];exact⟨⟨a,rfl⟩,AY.ints b⟩
 |[],_::_,x=>by cases x
 |_::_,[],x=>by cases x
theorem AO0(hz:l.length<64)(q:∀ns:List Int,ns.Perm (l.map (·.1))->Q (.lst (ns.map .int)) V m):Dk X (.builtin "sorted") [.di l] V m Q:=by
 intro s D vs hs hv;(refine AI (GZ hv) λu AR=>?_;obtain C4:=AR.1;obtain hu:=AR.2;clear AR;subst C4);simp only[AZ]at hu;(refine AI hu λa AX=>?_;obtain Cs:=AX.1;obtain na:=AX.2.1;obtain n1:=AX.2.2.1;obtain Ai:=AX.2.2.2;refine AI Ai λkvs A5=>?_;obtain hd:=A5.1;obtain iv:=A5.2;clear A5 Ai AX;try clear hu;subst Cs);obtain⟨ep,Ul⟩:=hd.dictAt;obtain Kf:=iv.keys;obtain hlen:kvs.length=l.length:=by obtain this:=congrArg Tb Kf;simpa using this
 apply Calls.call_function_entry kind_sorted plain_sorted entry_sorted (args_sorted1 _);unfold Builtin.«sorted»;refine Ae (m:=checkCount "sorted" 1 1 _) (BN ?_);refine Ae (kdu_collect (A:=X.A.in1) (kdl_dict (knd:=ik X.w) (kvs:=kvs) (ep:=ep) (by simpa using n1)) hs.ok.1 Ul (kdl_size (AM 0x1011410f0f0f0f0f0f200010004940f21029 rfl hz hlen)) λh' tk acc hk Kc=>?_);obtain hl:acc.toList.length=kvs.length:=by apply AG eA;exact Kc.1
 obtain hI:XE acc.toList (l.map (·.1)):=intsAre_of (w:=X.w) (D:=D) (h:=h') (AY.of_get (by obtain this:=Kc.1;simp;exact AQ 0x10101511010510004201049002049 rfl hlen this) λi mv v e1 e2=>by
  (refine Ao (Kc.2 i v (by refine AG (A0 (Ge)) ?_;exact e2)) λk x A6=>?_;obtain e3:=A6.1;obtain e4:=A6.2;clear A6);obtain⟨t,rfl⟩:=lR e4;obtain e5:(kvs.map (·.1))[i]? =some k:=by refine AG (EU)<|AD e3 ?_;rfl
  rw[Kf]at e5;rw[EU,e5]at e1;(obtain zI:=Au e1;subst zI);exact DB)
 obtain h64:=hl▸(show kvs.length<64 by exact AM 0x1011440f200210004940f21029 rfl hz hlen);obtain g0:=Dx h' (o:=seqObj "list" acc.toList.toArray 0) rfl;refine Ae (wpAny_newList ?_ (by refine AD hl ?_;exact kdl_size (AM 0x1011410f0f0f0f0f0f200010004940f21029 rfl hz hlen)));refine Ae (F9 (Aj3 slot_list_sort ⟨_,⟨g0,rfl⟩⟩ entry_list_sort (list_sort_tree g0 hI h64 λout I_ a1 a2 a3=>⟨_,⟨rfl,?_⟩⟩) (args_list_sort _)));refine BN ⟨_,⟨rfl,?_⟩⟩;obtain⟨e,he⟩:=sortedHeap_at (vs:=acc.toList) (out:=out) g0;obtain lt:=EF g0;refine AW.grow hs (t:=tk) (λb o eb=>?_) ?_ (q I_ a2)
 ·obtain hb:=EF (hk b o eb);refine AG (sortedHeap_old (G3 hb) (Gf hb lt))<|DD _ (hk b o eb)
 ·simp only[AZ];refine(BK _ out e (BR rfl (λd=>?_) he (AY.ints a1)));obtain⟨o,e'⟩:=hs.rs.live _ d;exact absurd (EF (hk _ _ e')) (G0 _)
theorem zq:Gs 291 "other":=gs rfl
theorem zp:Gs 291 "known":=gs rfl
theorem yW:Ga 291 "other":=ga rfl
theorem jQ:Ga 291 "known":=ga rfl
theorem YW:Gm 291 "price" 288:=gm rfl
theorem yn:Gc 291 281:=gc rfl
noncomputable def inK(P:MV->Hp->Lc->Prop):Ks:=λo V m=>match o with
 | .v v=>P v V m
 |_=>False
theorem R3(h:run c 5000 f (.ev e) [] V m (inK P)):TR (cx c f A env) VR (Ab e env) V m P:=
 ((snd c 5000).ev h).mono λv AE m' z=>by
   refine AD z.1<|z.2.elim (λh=>h.elim) λj Z h=>h
section
variable{c:CW}{V:Hp}{K:MV->Hp->Prop}
theorem Ah9(hz:l.length<64)(q:∀ns:List Int,ns.Perm (l.map (·.1))->K (.lst (ns.map .int)) V):ask c (.bi (.builtin "sorted") [.di l]) V K:=λX m=>AO0 hz λns p=>⟨rfl,q ns p⟩
end
theorem AJ6(P):∃t,Jt (KK P) Ea "MOST_UNIT"=some (some (.int 1024 t)):=⟨_,rfl⟩
theorem AJ3(h1:1<=u)(h2:u<=4)(q:Q .none V):Ag w h₀ 1 262 [.int u] V Q:=by
 obtain⟨tL,hL⟩:=AJ6 w.params;refine Bg ["unit"] [] ["MOST_UNIT"] [] [] (by kernel_rfl) (by kernel_rfl)<|AA<|BW (λZ=>?_) (λh=>absurd h1 h)
 refine AA<|GU (λh=>absurd (KL h2 (by decide)) h) (λZ=>?_)
 exact q
noncomputable def Hj(n u:Int):Int:=(Ih (n^u.toNat):Int)-1
theorem Zv(h1:1<=u)(h2:u<=4)(h3:n.natAbs<2^64)(q:Q (.int (Hj n u)) V):Ag w h₀ 1 269 [.int n,.int u] V Q:=by
 refine Bg ["number","unit"] [] [] [] [] (by kernel_rfl) (by kernel_rfl)<|AA<|λA env=>Ac0 jK (R3 ?_) (by intro e r h;cases h<;>exact⟨rfl,rfl⟩) rfl
 refine AA<|w_pow (LA h1) (Aw 0x1120ff4f2f4f0f2011420119 rfl h2) h3<|⟨lW,bK (nX ⟨rfl,q⟩)⟩
noncomputable abbrev Vw:List AV:=["other","known"]
def T8(L:List (Int×Int)):Prop:=L.length<64/\∀k v,Ak L k=some v->0<=v/\v<=1000
theorem OS{α:Type}[DecidableEq α]:∀{l:List (α×Int)}{k:α},k∈l.map (·.1)->∃v,Ak l k=some v
 |(a,b)::l,k,h=>by
  simp only[Ha];split
  ·exact⟨b,rfl⟩
  ·rename_i ne;rcases CH.mp h with e|e
   ·exact absurd e.symm ne
   ·exact OS e
theorem Vv:∀{l:List Int},(∀x∈l,0<=x/\x<=c)->0<=l.sum/\l.sum<=c*l.length
 |[],_=>by simp
 |a::l,h=>by
  obtain h1:=h a (.head _);obtain h2:=Vv λx hx=>h x (.tail _ hx);refine AD XW<|AD KQ ?_
  obtain this:c*((l.length+1:Nat):Int)=c*l.length+c:=by refine AD (s7 ..)<|AG (su ..) ?_;simp
  exact Lx 0x110101071000101721110131110130217413132159311111102179410110102179 rfl h1 h2 this
theorem AY2(hx:V x=some (.inst 291 d [] []))(hL:T8 L)(h1:1<=u)(h2:u<=4)
 (q:∀o K kd AE,V kd=none->(∀a o,a≠x->V a=some o->AE a=some o)->AE x=some (.inst 291 d Vw [.int o,.ref kd])->AE kd=some (.di K)->kd≠x->Q .none AE):Ag w h₀ 2 281 [.ref x,.di L,.int u] V Q:=by
 refine Bg ["self","counts","unit"] ["whole","symbol"] ["sum","max","log_units","sorted"] ["counts"] [] (by kernel_rfl) (by kernel_rfl)<|AA<|SJ (λx:Int×Int=>MV.int x.1) (λZ=>true) (λx=>.int ((Ak L x.1).getD 0)) (.di _ _) trivial (by have:=hL.1;exact Ah 0x11218f6faf0f200040f20029 rfl this) rfl (λx f K' EC kt Z=>?_) ?_
 ·obtain⟨v,hv⟩:=OS (DJ.mpr ⟨_,⟨EC,rfl⟩⟩:x.1∈L.map (·.1));refine AA<|V5 (.inl rfl) hv ?_
  have kt:=kt;rw[hv]at kt;exact kt _ rfl
 have e0:(L.filter λZ=>true).map (λx=>MV.int ((Ak L x.1).getD 0))=(L.map λx=>(Ak L x.1).getD 0).map MV.int:=by simp[XK.mpr,sR]
 have sn:∀y∈(L.map λx=>(Ak L x.1).getD 0),0<=y/\y<=1000:=λy hy=>by
  (refine AI (DJ.mp hy) λz AR=>?_;refine BQ AR λhz C4=>?_;clear AR;(try clear hy;subst C4));obtain⟨v,hv⟩:=OS (DJ.mpr ⟨_,⟨hz,rfl⟩⟩:z.1∈L.map (·.1));refine AD hv ?_;exact hL.2 _ _ hv
 have sb:=Vv sn;rw[Fc]at sb;refine AD e0 ?_;generalize (L.map λx=>(Ak L x.1).getD 0)=NS at sb sn|-;refine AA<|w_sum BY ?_ ?_ ?_
 ·exact λy hy=>(sn y hy).1
 ·have:=hL.1;exact Bp 0x13ef8f10410f0f0f0f0f0f0f0f0f0f0f0f0f0f0f201340f200290083ef8f60110102179 rfl sb this
 refine AA<|w_mul (by decide) (by decide)<|AA ?_
 generalize hW:(1+2*NS.sum:Int)=W;have jz:W.natAbs<2^64:=by have:=hL.1;omega
 refine Zv h1 h2 jz<|AA<|Kx<|AA ?_
 have x1:=hx;have k1:DE V V:=λZ Z e=>e;refine Df x1 zq (by decide)<|AA ?_
 have x2:(V.set x (.inst 291 d (DY [] (CL "other")) (Ds [] [] (CL "other") (.int (max 1 (Hj W u)))))) x=some (.inst 291 d ["other"] [.int (max 1 (Hj W u))]):=AS;have k2:∀a o,a≠x->V a=some o->(V.set x (.inst 291 d (DY [] (CL "other")) (Ds [] [] (CL "other") (.int (max 1 (Hj W u)))))) a=some o:=λa o n e=>by apply AG (AL n);exact k1 a o e
 generalize V.set x (.inst 291 d (DY [] (CL "other")) (Ds [] [] (CL "other") (.int (max 1 (Hj W u)))))=Bf at x2 k2;clear k1 x1 sb sn e0;refine Pc λkd nA=>?_;have n2:=CZ nA;have Ph:kd≠x:=(neN x2 n2).symm;refine AA<|Df ((by apply AG (AL Ph.symm);exact x2)) zp (by decide) ?_
 have Rj:V kd=none:=by
  cases e:V kd with
  |none=>rfl
  |some o=>have:=k2 kd o Ph e;rw[n2]at this;exact nS this
 have x3:((Bf.set kd (.di [])).set x (.inst 291 d (DY ["other"] (CL "known")) (Ds ["other"] [.int (max 1 (Hj W u))] (CL "known") (.ref kd)))) x=some (.inst 291 d Vw [.int (max 1 (Hj W u)),.ref kd]):=AS;have y3:((Bf.set kd (.di [])).set x (.inst 291 d (DY ["other"] (CL "known")) (Ds ["other"] [.int (max 1 (Hj W u))] (CL "known") (.ref kd)))) kd=some (.di []):=by exact AG (AL Ph) AS
 have k3:∀a o,a≠x->V a=some o->((Bf.set kd (.di [])).set x (.inst 291 d (DY ["other"] (CL "known")) (Ds ["other"] [.int (max 1 (Hj W u))] (CL "known") (.ref kd)))) a=some o:=λa o n e=>by
  refine AG (AL n)<|AG (AL (neN e Rj)) ?_;exact k2 a o n e
 generalize (Bf.set kd (.di [])).set x (.inst 291 d (DY ["other"] (CL "known")) (Ds ["other"] [.int (max 1 (Hj W u))] (CL "known") (.ref kd)))=DC at x3 y3 k3;clear k2 x2 nA n2;apply AA;let M:Option MV->Lc:=λb=>[("self",some (.ref x)),("counts",some (.di L)),("unit",some (.int u)),("whole",some (.int W)),("symbol",b)];let I:List MV->Hp->Lc->Prop:=λAN AE m=>∃(ns:List Int)(K:List (Int×Int))(b:Option MV),AN=ns.map .int/\(∀k∈ns,k∈L.map (·.1))/\K.length+ns.length<=64/\AE kd=some (.di K)/\(∀a,a≠kd->AE a=DC a)/\m=M b;refine Ah9 hL.1 λns hp=>AA<|EO I (.lst _ _) (λZ Z Z Z Z=>trivial) (λZ Z Z=>trivial) (BK ns [] _ (Cc rfl (λk hk=>hp.mem_iff.mp hk) ?_ y3 (λZ Z=>rfl) rfl)) ?_ ?_
 ·have:=hp.length_eq;have:=hL.1;simp at*;exact AM 0x1011440f200010004940f21029 rfl (by assumption) this
 ·intro mv AN AE m hI;refine A1 hI λns K b hI=>Em hI λhr hm hz hk fr e1=>?_;(try clear hI;subst e1);clear hI;cases ns with
  |nil=>exact cN hr
  |cons y ns=>
   simp only[By,Dj]at hr;obtain⟨rfl,rfl⟩:=hr;obtain⟨v,hv⟩:=OS (hm y (.head _));have Uw:=hL.2 _ _ hv;obtain ii:EI AE (.ref x) 291 Vw [.int (max 1 (Hj W u)),.ref kd]:=.inr (Aj x d ⟨rfl,(by apply AG (fr x Ph.symm);exact x3)⟩);refine AA<|Zv h1 h2 jz<|AA<|V5 (.inl rfl) hv<|AA<|w_mul (by decide) (by decide)<|AA<|Zv h1 h2 (by omega)<|AA<|Kx<|AA<|Ax ii jQ rfl<|AA<|Ni hk (AM 0x1011418f6faf0f200040f21000309 rfl hz) ?_
   have:=G9 (l:=K) (k:=y) (v:=max 1 (Hj W u-Hj (2*v) u));refine BK ns _ _ (Cc rfl (λk hk=>hm k (.tail _ hk)) ?_ AS (λa n=>by apply AG (AL n);exact fr a n) rfl);simp at hz;exact AQ 0x111340f210003012203000940f21210320309 rfl hz this
 ·intro AE m hI;refine A1 hI λns K b hI=>Em hI λhr hm hz hk fr e1=>?_;(try clear hI;subst e1);exact q _ K kd AE Rj (λa o n e=>by apply AG (fr a (neN e Rj));exact k3 a o n e) (by apply AG (fr x Ph.symm);exact x3) hk Ph
noncomputable abbrev IV(o:Int)(K:List (Int×Int)):MV:=.ins 291 Vw [.int o,.di K]
theorem pL(hL:T8 L)(h1:1<=u)(h2:u<=4)(q:∀o K,Q (IV o K) V):Ag w h₀ 3 291 [.di L,.int u] V Q:=by
 refine Ag.cw (Jg (yn _) λx d nx nd ne=>?_);obtain I':=CZ nx;refine AY2 AS hL h1 h2 λo K kd AE nk fr S1 S2 ne2=>⟨rfl,?_⟩;rw[AL ne2]at nk;refine .deep S2 S1 ne2.symm rfl<|.cv (.inst AS (.sub (V:=V) (λa o e=>?_) (.done ?_)))
 ·obtain ax:=neN e I';obtain ak:=neN e nk;simp only[Hp.del,Hp.set,ax,ak,if_false];exact fr a o ax (by apply AG (AL ax);exact e)
 ·simp only[By,OB,PV,E6,if_true];exact q o K
theorem bD{w h₀ V Q o k K}(q:Q (.int ((Ak K k).getD o)) V):Ag w h₀ 1 288 [IV o K,.int k] V Q:=by
 refine Bg ["self","symbol"] [] [] [] [] (by kernel_rfl) (by kernel_rfl)<|AA<|Ax (.inl rfl) jQ rfl<|AA<|Kw (.inl rfl)<|AA<|Ax (.inl rfl) yW rfl<|AA<|w_get (.inl rfl)<|q
def eY(n:Nat)(L:List (Int×Int)):Prop:=L.length<=n/\∀k v,Ak L k=some v->0<=v/\v<=10
def Ij(w:CE)(h:BU)(a:AU)(n:Nat):Prop:=∃L kvs,h.DictOf (ik w) a kvs/\Fb L kvs/\eY n L
theorem AO6{α:Type}{G:Prop}(o:Option α)(n:o=none->G)(s:∀v,o=some v->G):G:=match o,n,s with
 |none,n,_=>n rfl
 |some v,_,s=>s v rfl
@[elab_as_elim]theorem wx{F:Bool->Prop}(b:Bool)(t:b=true->F true)(f:b=false->F false):F b:=match b,t,f with
 |true,t,_=>t rfl
 |false,_,f=>f rfl
def tB(H:BU)(e it:AU)(i:Nat):Prop:=∃old,IsEnum H e it ((i:Nat):Int) old
def fg(H:BU)(L:AU):Prop:=∃m,H.Ns L m
theorem CV.at(r:CV s s'){P:Bq->Prop}{h:BU}{tk:Nat}(p:P {s with heap:=h,toks:=tk}):P {s' with heap:=h,toks:=tk}:=
 (show({s with heap:=h,toks:=tk}:Bq)={s' with heap:=h,toks:=tk}by rw[r.gens,r.drawn,r.os])▸p
theorem Ij.ext(d:Ij w h a n)(x:W_ it h C8)(n9:a≠it):Ij w C8 a n:=
 Ao d λL kvs z=>DF z λz1 z2 z3=>A1 z1 λo es ep y=>Aj L kvs (AO (BK o es ep ⟨x _ _ n9 y.1,y.2⟩) z2 z3)
def P7(e it l acc L:AU)(items:Array Ap)(Es:BU)(i:Nat)(H:BU):Prop:=
 tB H e it i/\H.IsListIter it l i/\H.IsList l items/\fg H L/\∀b o,b≠L->b≠e->b≠it->b≠acc->Es.get? b=some o->H.get? b=some o
theorem P7.put(f:P7 e it l acc L items Es i H)(n7:acc≠L)(n8:acc≠e)(n9:acc≠it)(Z6:l≠acc)(sb:JT acc H h):P7 e it l acc L items Es i h:=
 Cu f λq1 q2 q3 q4 q5=>An (q1.elim λo q=>⟨o,(sb.2 e n8.symm).trans q⟩) (q2.extBut sb.extBut n9.symm) (q3.extBut sb.extBut Z6) (q4.elim λm q=>⟨m,q.sameBut sb n7.symm⟩) λb o z1 z2 z3 z4 x=>sb.extBut b o z4 (q5 b o z1 z2 z3 z4 x)
theorem xF{K E}(hh:A.handled=none)(hp:(BZ.scope.kind==.class||(BZ.scope.kind==.module&&BZ.locals != BZ.globals))=false)
 (ho:BZ.kindOf "octet"=some .local) (hc:BZ.kindOf "count"=some .local) (ht:s.heap.IsTuple T #[v1,v2]) (hn:fg s.heap BZ.locals)
 (q:∀(m:AV->Option Ap)h' tk,h'.Ns BZ.locals (λx=>if x="count" then some v2 else if x="octet" then some v1 else m x)->(∀b o,b≠BZ.locals->b≠s.heap.objs.size->s.heap.get? b=some o->h'.get? b=some o)->K () {s with heap:=h',toks:=tk}):
 Aq (A7 BJ w) A (G6 (.Tuple [.Name "octet" p1,.Name "count" p2] k pt) BZ (.ref T)) K E s:=by
 refine hn.elim λm hn=>Aj1 hh ht rfl rfl λOy Ux=>?_;replace Ux:W_ s.heap.objs.size s.heap Oy:=Ux;obtain AB7:=hn.at λo x=>Ux _ o (G3 hn.lt) x;show Aq _ _ (do Jl [v2] (G6 (.Name "octet" p1) BZ v1);do Jl [] (G6 (.Name "count" p2) BZ v2);pure ()) _ _ _;refine Ae (F9 (bX (qR ho AB7 (λlP AB8 Y_=>?_) hp)));replace Y_:JT BZ.locals Oy lP:=Y_;refine Ae (F9 (bX (qR hc AB8 (λRE Ot Y'=>BN ?_) hp)));replace Y':JT BZ.locals lP RE:=Y';exact q m RE _ Ot λb o hb Li x=>Y'.extBut b o hb (Y_.extBut b o hb (Ux b o Li x))
theorem xG{n i tk t:Nat}{c:Int}{K E}(dd:Ij w s.heap acc n)(hn:n<=256)(c0:0<c)(c1:c<=10)
 (q:∀Oz,JT acc s.heap Oz->Ij w Oz acc (n+1)->K () {s with heap:=Oz,toks:=s.toks+1}):Aq (A7 BJ w) A (dictSet acc (.int i tk) (.int c t)) K E s:=
 Ao dd λL kvs z=>G5 z λhd iv lz hb=>wpAny_dictSet_pairs (knd:=ik w) (k:=(i:Int)) (show QP (i:Int) (.int i tk)=true by simp[QP]) hd
  (λOz d6 ZA=>q Oz ZA (Aj (dput L i c) _ (BR d6 (iv.stored (A1 hd λZ Z Z z=>z.2.2.2.2.2)) (Ek (G9 (l:=L)) (Nat.succ_le_succ lz)) λk v e=>(show(if(i:Int)=k then some c else Ak L k)=some v from(Je (l:=L) (k:=(i:Int)) (k':=k) (v:=c)).symm.trans e)|>λe=>if hk:(i:Int)=k then(Au ((if_pos hk).symm.trans e))▸⟨ey c0,c1⟩else hb k v ((if_neg hk).symm.trans e))))
  (Ek (fY iv.length.symm) (Ek lz (Ek hn (by unfold Vp;decide))))
theorem Ij.le(d:Ij w h a n)(z:n<=k):Ij w h a k:=Ao d λL kvs q=>G5 q λa1 a2 a3 a4=>Aj L kvs (BR a1 a2 (Ek a3 z) a4)
noncomputable def EnM(m:AV->Option Ap)(v1 v2:Ap):AV->Option Ap:=λx=>if x="count" then some v2 else if x="octet" then some v1 else m x
def sG(w:CE)(e it l acc L:AU)(items:Array Ap)(GH:Nat->Nat)(s:Bq)(k:Nat)(s':Bq):Prop:=
 ∃i,CV s s'/\P7 e it l acc L items s.heap i s'.heap/\Ij w s'.heap acc (GH i)/\i<=items.size/\k=items.size+1-i
theorem xI{k k0:Nat}{e it l acc items}{m:AV->Option Ap}
 (hh:A.handled=none) (hf:BZ.scope.kind=.function) (ho:BZ.kindOf "octet"=some .local) (hc:BZ.kindOf "count"=some .local) (GH:Nat->Nat) (hit:∀(j:Nat)x,items[j]? =some x->∃c t,x=.int c t/\0<=c/\c<=10/\GH j+(if 0<c then 1 else 0)<=GH (j+1)) (NM:GH items.size<=256) (hm:∀j,j<=items.size->GH j<=GH items.size) (hz:items.size<=256)
 (n1:e≠it) (n2:e≠BZ.locals) (n3:it≠BZ.locals) (n4:l≠BZ.locals) (n5:l≠e) (n6:l≠it) (n7:acc≠BZ.locals) (n8:acc≠e) (n9:acc≠it) (Z6:l≠acc)
 (he:IsEnum s.heap e it 0 .none) (hi:s.heap.IsListIter it l 0) (hl:s.heap.IsList l items) (hn:s.heap.Ns BZ.locals m) (hd:s.heap.DictOf (ik w) acc [])
 (hR:∀h' tk m',h'.Ns BZ.locals m'->Ij w h' acc (GH items.size)->(∀b o,b≠BZ.locals->b≠e->b≠it->b≠acc->s.heap.get? b=some o->h'.get? b=some o)->R (.ok .next) {s with heap:=h',toks:=tk}):
 GI (A7 BJ w) A (.compLoop (.DictComp (.Name "octet" po) (.Name "count" pc) [⟨.Tuple [.Name "octet" p1,.Name "count" p2] k pt,iter,[.Compare (.Name "count" p3) [.Gt] [.Constant (.int 0) k0 p4] p5],0⟩] scope pos) 0 (.ref e) (.ref acc) BZ) R s:=by
 have hp:(BZ.scope.kind==.class||(BZ.scope.kind==.module&&BZ.locals != BZ.globals))=false:=by refine AD hf ?_;rfl
 refine wY rfl (sG w e it l acc BZ.locals items GH s) ?_ (items.size+1)
  ⟨0,An CV.refl (An ⟨_,he⟩ hi hl ⟨m,hn⟩ λZ Z Z Z Z Z x=>x) (Aj [] [] (BR hd trivial (JX _) (λk v q=>by exact nS q))) (JX _) rfl⟩
 intro k A8 z;refine AI z λi z=>Cu z λsr f dd IB zk=>?_;show Aq _ A ((M5 _ 0 _ (.ref acc) BZ).onRaise (λx=>do VO x BZ;pQ x)) _ _ _;refine wpAny_noted (qS λK hK=>?_);refine AD (compTurn_dict ..)<|Ae (J_ (Ae ?_))
 refine Cp λGz BI=>Cu f λOg Yv FG NF hk=>AI Og λold Og=>AO6 (items[i]?) (λhv=>?_) λv hv=>?_
 ·apply BI;obtain IG:i=items.size:=fX IB (by simpa using hv);refine wpAny_pyNext_enum_end hh Og Yv FG hv λC8 Yp=>BN (hK _ _ ?_);refine NF.elim λm' NF=>sr.at (hR C8 A8.toks m' (NF.extBut Yp (HU n3)) (IG▸dd.ext Yp n9) (λb o q1 q2 q3 q4 x=>Yp b o q3 (hk b o q1 q2 q3 q4 x)))
 ·refine Ao (hit i v hv) λc t z=>G5 z λK6 c0 c1 c2=>?_;subst K6;refine BI ?_;obtain Cq:i<items.size:=(rn.mp hv).1;refine wpAny_pyNext_enum_item Og Yv FG hv n1 λC8 heo Q8 ZC AC3 AB5=>Ae (wpAny_letOwnedTupleGo_enum heo λFh Yq Lq=>?_);replace Lq:JT e C8 Fh:=Lq;have Rc:∀{a o},A8.heap.get? a=some o->a≠Fh.objs.size:=λ{a o} x=>G3 (by rw[Lq.1,AC3];exact G2 (EF x));have up:∀b o,b≠e->b≠it->A8.heap.get? b=some o->Fh.get? b=some o:=λb o q2 q3 x=>Lq.extBut b o q2 (AB5 b o q2 q3 x);refine Ae (xF (s:={A8 with heap:=Fh,toks:=A8.toks+1}) (v1:=.int i A8.toks) (v2:=.int c t) hh hp ho hc ⟨_,(AO ((Lq.2 _ (fb (EF Og))).trans ZC) rfl ⟨_,rfl⟩)⟩ (NF.elim λm' q=>⟨m',q.at λo x=>up _ o (HU n2) (HU n3) x⟩) λVK RE Ap9 Ot RP=>?_);have f5:P7 e it l acc BZ.locals items s.heap (i+1) RE:=An ⟨_,RP e _ n2 (Rc Og) Yq⟩ (Yv.elim λoi zi=>(Q8.extBut Lq.extBut (HU n1)).at λo x=>RP it o n3 (Rc zi.1) x)
   (FG.elim λol zl=>(FG.at λo x=>up l o n5 n6 x).at λo x=>RP l o n4 (Rc zl.1) x) ⟨_,Ot⟩ λb o q1 q2 q3 q4 x=>RP b o q1 (Rc (hk b o q1 q2 q3 q4 x)) (up b o q2 q3 (hk b o q1 q2 q3 q4 x))
  obtain d5:Ij w RE acc (GH i):=Ao dd λL kvs z=>Aj L kvs ⟨z.1.at λo x=>RP acc o n7 (Rc x) (up acc o n8 n9 x),z.2⟩;refine Ae (Ak6 (Aj6 (SN (WB hf hc Ot (v:=.int c t) (by with_unfolding_all rfl) (bW (Ao5 (Pf ?_))))) (by with_unfolding_all rfl)));obtain kc:items.size+1-(i+1)<k:=zk▸(AM 0x11211210131000410120034121031200342001029 rfl Cq);refine wx (decide (0<c)) (λJj=>?_) λJj=>?_
  ·obtain Jj:=of_decide_eq_true Jj;refine Ae (Ae (SN (WB hf ho Ot (v:=.int i A8.toks) (by with_unfolding_all rfl) (Ae (F9 (SN (WB hf hc Ot (v:=.int c t) (by with_unfolding_all rfl) (Ae (J_ (F9 ?_))))))))));exact xG d5 (Ek (hm i IB) NM) Jj c1 λOz ZA d6=>BN (hK _ _ ⟨rfl,⟨_,kc,⟨i+1,An (sr.trans ⟨rfl,rfl,rfl⟩) (f5.put n7 n8 n9 Z6 ZA) (d6.le (by rw[if_pos Jj]at c2;exact c2)) Cq rfl⟩⟩⟩)
  ·obtain Jj:=of_decide_eq_false Jj;exact BN (hK _ _ ⟨rfl,⟨_,kc,⟨i+1,An (sr.trans ⟨rfl,rfl,rfl⟩) f5 (d5.le (by rw[if_neg Jj]at c2;exact c2)) Cq rfl⟩⟩⟩)
theorem AY0(hl:(px.line==pos.line)=true)(hn:(scope.names.any λx=>x.1==t&&(x.2==.local||x.2==.cell))=false)(hk:env.kindOf t=some .local)(hf:env.scope.kind=.function):
 HJ (.DictComp k v gens scope pos) (some (.Name t px)) line env=pure true:=by
 obtain hb:env.blockKind=.function:=by unfold TG;refine AD hf ?_;rfl
 unfold HJ;dsimp only[eZ];show pure (env.blockKind==.function&&env.kindOf t==some .local&&px.line==pos.line&&!(scope.names.any λx=>x.1==t&&(x.2==.local||x.2==.cell)))=_;refine AD hb<|AD hk<|AD hl<|AD hn ?_
 rfl
theorem YR(P):GB P "enumerate" (.type "enumerate"):=⟨rfl,by first|rfl|decide+kernel,by decide⟩
theorem AZ7(F:CF scope ["octet","count"] [] G)(hG:X.G.contains "enumerate"=true)
 (FH:X.env.kindOf x=some .local->X.env.scope.kind=.function->HJ (.DictComp (.Name "octet" po) (.Name "count" pc) [⟨.Tuple [.Name "octet" p1,.Name "count" p2] k pt,.Call (.Name "enumerate" np) [arg] [] LW,[.Compare (.Name "count" p3) [.Gt] [.Constant (.int 0) k0 p4] p5],0⟩] scope pos) (some (TH x px)) pos'.line X.env=pure true) (hx:BG m x=true/\X.C.contains x=false)
 (h:TR X AY (F7 (Dl LW (Cr [arg] X.env))) V m λvs V m=>∃LI:List Int,vs=[.lst (LI.map .int)]/\LI.length<=256/\(∀c∈LI,0<=c/\c<=10)/\BG m x=true/\∀L a,eY (LI.filter λc=>decide (0<c)).length L->¬foot V a->Q .next (V.set a (.di L)) (DS m x (.ref a)))
 (he:LO X [arg] LW)
 (Hg:∀x,Jf (.Call (.Name "enumerate" np) [arg] [] LW) X.env x=pure x):
 TR X RF (Cj (.Assign [.Name x px] (.DictComp (.Name "octet" po) (.Name "count" pc) [⟨.Tuple [.Name "octet" p1,.Name "count" p2] k pt,.Call (.Name "enumerate" np) [arg] [] LW,[.Compare (.Name "count" p3) [.Gt] [.Constant (.int 0) k0 p4] p5],0⟩] scope pos) pos') X.env) V m Q:=λs D hs=>by
 have hk:=hs.kd x hx.1
 rw[if_neg (by rw[hx.2];decide)]at hk
 refine AD (iq _ _ _ _ (FH hk hs.fr.kind)) ?_
 have Y3:∀x∈scope.names,x.2=.local->scope.names.lookup x.1=some .local:=λx hx hl=>by
  have:=Il.mp F.names x hx;rw[hl]at this;simpa using this
 have Y2:∀x∈scope.names,x.2≠.cell:=λx hx hl=>by
  have:=Il.mp F.nG x hx;rw[hl]at this;simp at this
 refine Ae (J_ (Ae ?_));show Aq _ X.A (do let _<-UO (.DictComp (.Name "octet" po) (.Name "count" pc) [⟨.Tuple [.Name "octet" p1,.Name "count" p2] k pt,.Call (.Name "enumerate" np) [arg] [] LW,[.Compare (.Name "count" p3) [.Gt] [.Constant (.int 0) k0 p4] p5],0⟩] scope pos) scope X.env _ newDict false (Ab (.Call (.Name "enumerate" np) [arg] [] LW) X.env) (some (G6 (.Name x px) X.env))) _ _ s;refine Ae (Bz (Q:=λZ s'=>AW X RF D s V Q TJ s') (Aj4 (cl:=Jc X.env []) rfl Hg ?_ F.kind Y3 ?_) (λZ s' p=>BN (BN p)) λZ Z x=>x)
 ·have e0:=F.frees;refine AD (A0 e0)<|hV λy hy hl=>by
   have:y.1∈freeOf scope:=DJ.mpr ⟨y,⟨(Ez.mpr ⟨hy,by refine AD hl ?_;rfl⟩),rfl⟩⟩;rw[e0]at this;cases this
 refine qL (mJ hs hG (YR X.w.params).no (YR X.w.params).val (YR X.w.params).nn ?_ (by decide));obtain⟨e1,e2⟩:=he arg [] rfl;rw[e1]at h;refine AD e1<|gn (P:=λh=>(KK X.w.params).In h) (by show((false||(Dl LW (Cr [] X.env)).any (·.1))||false)=false;refine AD e2 ?_;rfl) KP.type (xj (TR.go h hs λvs AJ CY Ad m₁ Ac h1 h2 h3 h4 h5=>⟨h1.KI,?_⟩))
 (refine AI h5 λLI AR=>?_;obtain C4:=AR.1;obtain hz:=AR.2.1;obtain hb:=AR.2.2.1;obtain D5:=AR.2.2.2.1;obtain q:=AR.2.2.2.2;clear AR;try clear h5;subst C4);(refine AI (GZ h4) λu AX=>?_;obtain Cs:=AX.1;obtain hu:=AX.2;clear AX;subst Cs);simp only[AZ]at hu;(refine A1 hu λl xs n Ai=>?_;obtain Eb:=Ai.1;obtain nl:=Ai.2.1;obtain gl:=Ai.2.2.1;obtain rl:=Ai.2.2.2;clear Ai;try clear hu;subst Eb);have hL:AJ.heap.IsList l xs:=⟨_,(AO gl rfl ⟨n,rfl⟩)⟩;refine call_enumerate_list hL λhA en hi Kk kW=>Ak3 en<|bY ?_
 dsimp only;have Nb:(hA.push {cls:=.type "dict",dict:=none,data:=.dict #[]}).objs.size=AJ.heap.objs.size+3:=by rw[N4,Kk]
 refine Ak1 Y2 (by intro y hy;simp at hy) (λhB NG Dt=>?_) F.kind;dsimp only at NG Dt|-;have d0:(hA.push {cls:=.type "dict",dict:=none,data:=.dict #[]}).DictOf (ik X.w) hA.objs.size []:=sU hA;have k3:∀a o,(hA.push {cls:=.type "dict",dict:=none,data:=.dict #[]}).get? a=some o->hB.get? a=some o:=λa o e=>Dt.extBut a o (G3 (EF e)) (DD _ e);have k2:∀a o,hA.get? a=some o->hB.get? a=some o:=λa o e=>k3 a o (DD _ e);have d1:hB.DictOf (ik X.w) hA.objs.size []:=d0.at λo e=>k3 _ o e;have hl:@LT.lt Nat _ l AJ.heap.objs.size:=EF gl;have Qs:∀a,AJ.heap.objs.size<=a->AJ.heap.get? a=none:=λa ha=>by
  cases e:AJ.heap.get? a with
  |none=>rfl
  |some o'=>exact absurd (EF e) (Ft.mpr ha)
 have aA:hA.objs.size≠Ku:=by
  have:=QZ h1;have e2:Ku=1:=rfl;refine AD Kk<|AD e2 ?_
  have:3<AJ.heap.objs.size:=by
   (refine Bc h1.bs.g λmg o es ep A6=>?_;obtain e:=A6.1;clear A6);have:=EF (h1.rs.base _ _ e).1;have e1:Ea=3:=rfl;rwa[e1]at this
  exact Ah 282785514259270 rfl
 have lit:∀(j:Nat)v,xs[j]? =some v->∃c t,v=.int c t/\0<=c/\c<=10/\((LI.take j).filter λc=>decide (0<c)).length+(if 0<c then 1 else 0)<=((LI.take (j+1)).filter λc=>decide (0<c)).length:=λj v e=>by
  have hlen:=rl.length;have hj:j<xs.toList.length:=by have:=(rn.mp e).1;simpa using this
  rw[<-hlen]at hj;(refine AI (rl.get (Ee hj)) λv' A2=>?_;obtain g1:=A2.1;obtain g2:=A2.2;clear A2);rw[Ge,e]at g1;(have zI:=Au g1;subst zI);rw[List.getElem_map]at g2;simp only[AZ]at g2;obtain⟨t,rfl⟩:=g2;have I5:j<LI.length:=by simpa using hj
  have:=hb _ (N_ I5);refine(Aj _ t (BR rfl this.1 this.2 ?_));refine AD t8<|AD (Ee I5)<|AD (Option.toList_some ..)<|AD (QC ..)<|AD Tc ?_
  by_cases z:0<LI[j]<;>simp[z]
 have lN:LI.length=xs.size:=by have:=rl.length;simpa using this
 have Yt:(LI.take xs.size)=LI:=by refine AD (A0 lN) ?_;exact t7
 have eB:=k2 _ _ en;have iB:hB.IsListIter AJ.heap.objs.size l 0:=hi.at λo e=>k2 _ o e;have lB:hB.IsList l xs:=hL.at λo e=>k2 _ o (kW _ o e);have k1:∀a o,AJ.heap.get? a=some o->hB.get? a=some o:=λa o e=>k2 a o (kW a o e);generalize hC:(hA.push {cls:=.type "dict",dict:=none,data:=.dict #[]}).objs.size=C at*;generalize Ap0:hA.objs.size=acc at*;generalize hN0:AJ.heap.objs.size=N0 at*;have loop:GI (A7 BJ X.w) X.A (.compLoop (.DictComp (.Name "octet" po) (.Name "count" pc) [⟨.Tuple [.Name "octet" p1,.Name "count" p2] k pt,.Call (.Name "enumerate" np) [arg] [] LW,[.Compare (.Name "count" p3) [.Gt] [.Constant (.int 0) k0 p4] p5],0⟩] scope pos) 0 (.ref (N0+1)) (.ref acc) (compEnvC scope (Jc X.env []) C X.env)) (X0 (A7 BJ X.w) X.A Dr (some (G6 (.Name x px) X.env)) (λZ s'=>AW X RF D s V Q TJ s') (.ref acc) C) {AJ with heap:=hB,toks:=AJ.toks+([]:List (AV×Ap)).length}:=by
  refine xI h1.ok.1 F.kind (mM (CF.find F.loc _ (by simp))) (mM (CF.find F.loc _ (by simp))) (λj=>((LI.take j).filter λc=>decide (0<c)).length) lit (by refine AD Yt ?_;exact Ek (QD _ _) hz) (λj Z=>by refine AD Yt ?_;exact(((List.take_sublist j LI).filter _).length_le)) (AM 0x1101410f0f200000104910f0f21009 rfl hz lN) (e:=N0+1) (it:=N0) (l:=l) (acc:=acc) (show @Ne Nat (N0+1) (N0)by exact Ah 1168249979718 rfl) (show @Ne Nat (N0+1) (C)by exact AM 0x10104101200346320031049 rfl Nb) (show @Ne Nat (N0) (C)by exact AM 0x10104100046320031049 rfl Nb) (show @Ne Nat (l) (C)by exact AQ 0x101015100046322031049200029 rfl hl Nb) (show @Ne Nat (l) (N0+1)by exact AM 0x1013121030046100029 rfl hl) (show @Ne Nat (l) (N0)by exact AM 0x1013100046100029 rfl hl) (show @Ne Nat (acc) (C)by exact AQ 0x1001106100046222030049322031049 rfl Nb Kk) (show @Ne Nat (acc) (N0+1)by exact AM 0x1103121030046221030049 rfl Kk) (show @Ne Nat (acc) (N0)by exact AM 0x1103100046221030049 rfl Kk) (show @Ne Nat (l) (acc)by exact AQ 0x101015100046222031049200029 rfl hl Kk) eB iB lB NG d1 λh' tk m' I_ iW fr=>?_;have kp:∀a o,AJ.heap.get? a=some o->h'.get? a=some o:=λa o e=>by
   have:@LT.lt Nat _ a N0:=hN0▸EF e;exact fr a o (show @Ne Nat (a) (C)by exact AQ 0x101105100046200029322031049 rfl Nb this) (show @Ne Nat (a) (N0+1)by exact AM 0x1013121030046100029 rfl this) (show @Ne Nat (a) (N0)by exact AM 0x1013100046100029 rfl this) (show @Ne Nat (a) (acc)by exact AQ 0x101105100046200029222031049 rfl Kk this) (k1 a o e)
  (refine Ao iW λL kvs BC=>?_;obtain d':=BC.1;obtain iv:=BC.2.1;obtain eb:=BC.2.2;clear BC;try clear iW);rw[Yt]at eb;have gC:∃oC,h'.get? C=some oC:=by(refine A1 I_ λoC Z Z BM=>?_;obtain q:=BM.1;clear BM;try clear I_);exact⟨oC,q⟩
  have ga:∃oA,h'.get? acc=some oA:=by(refine A1 d' λoA Z Z Bx=>?_;obtain q:=Bx.1;clear Bx;try clear d');exact⟨oA,q⟩
  have fA:=Qs acc (AM 0x110310000220031049 rfl Kk);have fC:=Qs C (AM 0x110310000320031049 rfl Nb);obtain⟨rN,sN⟩:=h1.rs.QX (h':=h') (N:=λb=>b=acc\/b=C) kp (λb e=>by
   rcases e with rfl|rfl
   ·exact⟨fA,ga⟩
   ·exact⟨fC,gC⟩)
  have Y7:=h1.next rN sN;have NR:∀a,AJ.heap.get? a=none->¬foot Ad a:=λa e f=>by obtain⟨z,q⟩:=Iw h1.rs f;exact CO q e
  have PG:∀a,AJ.heap.get? a=none->¬Own X.env a:=λa e f=>by obtain⟨z,q⟩:=h1.rs.live a (h1.fr.own a f).1;exact CO q e
  refine DF (Y7.adopt (own:=Own X.env) sN.Hn ⟨.inr (.inl rfl),NR _ fA,PG acc fA⟩ fA (mo:=.di L) ⟨aA,⟨kvs,⟨d',iv⟩⟩⟩ rfl) λhsS st Z7=>X1 hs hsS (h2.trans hs.rs.live st) (h3.trans ⟨rfl,rfl,rfl⟩) D5 (by simp only[AZ]) I_ (.inr (.inr rfl)) (Z7 C (AQ 0x101105100046222031049322030049 rfl Nb Kk) (NR C fC)) (PG C fC) (h2.none fC) (q L acc eb (NR _ fA))
 exact codeAny_compStart_dict loop (Ak3 eB loop)
theorem zu:Gs 325 "unit":=gs rfl
theorem zr:Gs 325 "firsts":=gs rfl
theorem zt:Gs 325 "seconds":=gs rfl
theorem yY:Ga 325 "unit":=ga rfl
theorem jR:Ga 325 "firsts":=ga rfl
theorem yX:Ga 325 "seconds":=ga rfl
theorem zB:Gm 325 "literal" 315:=gm rfl
theorem zC:Gm 325 "match" 322:=gm rfl
theorem yo:Gc 325 308:=gc rfl
noncomputable abbrev Rb:List AV:=["unit","firsts","seconds"]
def VB(b:Int)(L:List (Int×Int)):Prop:=∀k v,Ak L k=some v->0<=v/\v<=b
theorem VB.put(h:VB b L)(h0:0<=v)(h1:v<=10)(hb:0<=b):VB (b+10) (dput L k ((Ak L k).getD 0+v)):=λj u e=>by
 rw[Je]at e;split at e
 ·(obtain zI:=Au e;subst zI);cases z:Ak L k with
  |none=>simp;exact Bd 0x1110410014a2113011010217110219a20119010219 rfl h0 h1 hb
  |some w=>obtain this:=h _ _ z;simp;exact DR 0x110105101015a2213110131110130217210110102179a21119110219 rfl h0 h1 this
 ·obtain this:=h j u e;exact Bd 0x11031013a2113011010217110110102179 rfl this
theorem AG4{LI LE DI u}(hx:V x=some (.inst 325 d [] []))(hC:W4 a LI LE DI)(h1:1<=u)(h2:u<=4)
 (q:∀o K o2 K2 AE,(∀b o,b≠x->V b=some o->AE b=some o)->AE x=some (.inst 325 d Rb [.int u,IV o K,IV o2 K2])->Q .none AE):Ag w h₀ 4 308 [.ref x,a,.int u] V Q:=by
 obtain⟨tL,hLm⟩:=Ro w.params;have ia:∀V:Hp,EI V a 244 cntK [.lst (LI.map .int),.di LE,.di DI]:=λV=>.inl hC.e;refine Bg ["self","counts","unit"] ["firsts","seconds","length","symbol","distance"] ["need_unit","enumerate","slot_of","LEAST_MATCH","SymbolPrices"] [] [162] (by kernel_rfl) (by kernel_rfl)<|AA<|AJ3 h1 h2<|AA<|Df hx zu (by decide)<|AA ?_
 have x1:(V.set x (.inst 325 d (DY [] (CL "unit")) (Ds [] [] (CL "unit") (.int u)))) x=some (.inst 325 d ["unit"] [.int u]):=AS;have k1:∀b o,b≠x->V b=some o->(V.set x (.inst 325 d (DY [] (CL "unit")) (Ds [] [] (CL "unit") (.int u)))) b=some o:=λb o n e=>by apply AG (AL n);exact e
 generalize V.set x (.inst 325 d (DY [] (CL "unit")) (Ds [] [] (CL "unit") (.int u)))=CC at x1 k1;intro A env;refine AZ7 (X:=cx _ _ A env) (G:=[]) ⟨rfl,rfl,rfl,rfl,by decide,rfl,rfl,rfl⟩ rfl (AY0 (by kernel_rfl) (by kernel_rfl)) ⟨rfl,rfl⟩ ?_ (λZ Z h=>by(have zI:=N9 h;obtain zJ:=zI.1;obtain zK:=zI.2;subst zJ;subst zK)<;>exact⟨rfl,rfl⟩) (λZ=>rfl);refine pq (R3 ?_) (by with_unfolding_all rfl);refine AA<|Ax (ia _) YK rfl<|bK<|⟨LI,(An rfl (by have:=hC.l1;exact Ah 0x101310f0f200010f0f20049 rfl this) hC.l2 rfl (λF fa hF m7=>?_))⟩
 have m8:=CZ m7;have SU:x≠fa:=neN x1 m8;have x2:(CC.set fa (.di F)) x=some (.inst 325 d ["unit"] [.int u]):=by apply AG (AL SU);exact x1
 have y2:(CC.set fa (.di F)) fa=some (.di F):=AS;have k2:∀b o,b≠x->V b=some o->(CC.set fa (.di F)) b=some o:=λb o n e=>bB m7 _ _ (k1 b o n e);have m9:V fa=none:=by
  cases e:V fa with
  |none=>rfl
  |some o=>have:=k1 fa o SU.symm e;rw[m8]at this;exact nS this
 generalize CC.set fa (.di F)=Bf at x2 y2 k2;refine AA<|Pc λsa nK=>?_
 have Z':=CZ nK;have SX:x≠sa:=neN x2 Z';have Qt:fa≠sa:=neN y2 Z';have x3:(Bf.set sa (.di [])) x=some (.inst 325 d ["unit"] [.int u]):=by apply AG (AL SX);exact x2
 have y3:(Bf.set sa (.di [])) fa=some (.di F):=by apply AG (AL Qt);exact y2
 have z3:(Bf.set sa (.di [])) sa=some (.di []):=AS;have k3:∀b o,b≠x->V b=some o->(Bf.set sa (.di [])) b=some o:=λb o n e=>bB nK _ _ (k2 b o n e);have nM:V sa=none:=by
  cases e:V sa with
  |none=>rfl
  |some o=>have:=k2 sa o SX.symm e;rw[Z']at this;exact nS this
 generalize Bf.set sa (.di [])=DC at x3 y3 z3 k3;apply AA;obtain Qz:F.length<=10:=Ek hF.1 hC.l3.2.2;let M:Option MV->Option MV->Option MV->Lc:=λb c e=>[("self",some (.ref x)),("counts",some a),("unit",some (.int u)),("firsts",some (.ref fa)),("seconds",some (.ref sa)),("length",b),("symbol",c),("distance",e)];let I:List MV->Hp->Lc->Prop:=λAN AE m=>∃(ls:List (Int×Int))(F':List (Int×Int))(n:Nat)(b c:Option MV),AN=(ls.map λx=>MV.int x.1)/\(∀y∈ls,y∈LE)/\n+ls.length<=10/\AE fa=some (.di F')/\(F'.length<=10+n/\VB (10+10*n) F')/\(∀b,b≠fa->AE b=DC b)/\m=M b c none;refine Ax (ia _) Ub rfl<|AA<|EO I (.di _ _) (λZ Z Z Z Z=>trivial) (λZ Z Z=>trivial) (D_ LE F 0 _ _ (Dz rfl (λZ h=>h) (by have:=hC.l3.1;exact Ah 0x112a2000230a20009 rfl this) y3 ⟨Qz,hF.2⟩ (λZ Z=>rfl) rfl)) ?_ ?_
 ·intro mv AN AE m hI;refine GK hI λls F' n b c hI=>En hI λhr hm hz hk hv fr e1=>?_;(try clear hI;subst e1);cases ls with
  |nil=>exact cN hr
  |cons y ls=>
   simp only[By,Dj]at hr;obtain⟨rfl,rfl⟩:=hr;obtain⟨v,hy⟩:=OS (DJ.mpr ⟨_,⟨(hm y (.head _)),rfl⟩⟩:y.1∈LE.map (·.1));have hb:=hC.l4 _ _ hy;refine AA<|PQ<|AA<|J4 (j:=0) rfl (by decide) (by decide) rfl<|AA<|Kw (.inr ⟨_,⟨rfl,hk⟩⟩)<|AA<|w_get (.inr ⟨_,⟨rfl,hk⟩⟩)<|AA<|Ax (ia _) Ub rfl<|AA<|V5 (.inl rfl) hy<|AA<|Ni hk (AQ 0x100111618f6faf0f2000a2201030910a230009 rfl hv.1 hz) ?_
   have:=G9 (l:=F') (k:=256+JD (y.1-2)) (v:=(Ak F' (256+JD (y.1-2))).getD 0+v);refine D_ ls _ (n+1) _ _ (Dz rfl (λz hz=>hm z (.tail _ hz)) (by simp at hz;exact dj hz) AS ⟨by exact AQ 0x111312103a2300012203000910a232009 rfl hv.1 this,?_⟩ (λb n=>by apply AG (AL n);exact fr b n) rfl);have:=hv.2.put (k:=256+JD (y.1-2)) hb.2.2.1 hb.2.2.2 (Ah 0xa12008a6a23021 rfl);refine AD (show(10+10*((n+1:Nat):Int))=10+10*n+10 by exact Ah 0x1111a2008a6a233120038a6a235 rfl)<|this
 ·intro AE m hI;refine GK hI λls F' n b c hI=>En hI λhr hm hz hk hv fr e1=>?_;(try clear hI;subst e1);have x4:AE x=some (.inst 325 d ["unit"] [.int u]):=by apply AG (fr x SU);exact x3
  have z4:AE sa=some (.di []):=by apply AG (fr sa Qt.symm);exact z3
  have k4:∀b o,b≠x->V b=some o->AE b=some o:=λb o n e=>by apply AG (fr b (neN e m9));exact k3 b o n e
  obtain hFo:T8 F':=⟨by exact AQ 0x100111640f200210a230009a22010309 rfl hz hv.1,λk v e=>by have:=hv.2 k v e;exact rR hz this⟩;apply AA;let I2:List MV->Hp->Lc->Prop:=λAN DV m=>∃(ls:List (Int×Int))(G:List (Int×Int))(n:Nat)(c e:Option MV),AN=(ls.map λx=>MV.int x.1)/\(∀y∈ls,y∈DI)/\n+ls.length<=10/\DV sa=some (.di G)/\(G.length<=10+n/\VB (10+10*n) G)/\(∀b,b≠sa->DV b=AE b)/\m=M b c e;refine Ax (ia _) Ua rfl<|AA<|EO I2 (.di _ _) (λZ Z Z Z Z=>trivial) (λZ Z Z=>trivial) (D_ DI [] 0 _ _ (Dz rfl (λZ h=>h) (by have:=hC.l3.2.1;exact Ah 0x112a2000230a20009 rfl this) z4 ⟨by simp,λk v e=>by exact nS e⟩ (λZ Z=>rfl) rfl)) ?_ ?_
  ·intro mv AN DV m hI;refine GK hI λls G n c e hI=>En hI λhr hm hz hk hv fr e1=>?_;(try clear hI;subst e1);cases ls with
   |nil=>exact cN hr
   |cons y ls=>
    simp only[By,Dj]at hr;obtain⟨rfl,rfl⟩:=hr;obtain⟨v,hy⟩:=OS (DJ.mpr ⟨_,⟨(hm y (.head _)),rfl⟩⟩:y.1∈DI.map (·.1));have hb:=hC.l5 _ _ hy;refine AA<|PQ<|AA<|J4 (j:=0) rfl (by decide) (by decide) rfl<|AA<|Kw (.inr ⟨_,⟨rfl,hk⟩⟩)<|AA<|w_get (.inr ⟨_,⟨rfl,hk⟩⟩)<|AA<|Ax (ia _) Ua rfl<|AA<|V5 (.inl rfl) hy<|AA<|Ni hk (AQ 0x100111618f6faf0f2000a2201030910a230009 rfl hv.1 hz) ?_
    have:=G9 (l:=G) (k:=JD (y.1-1)) (v:=(Ak G (JD (y.1-1))).getD 0+v);refine D_ ls _ (n+1) _ _ (Dz rfl (λz hz=>hm z (.tail _ hz)) (by simp at hz;exact dj hz) AS ⟨by exact AQ 0x111312103a2300012203000910a232009 rfl hv.1 this,?_⟩ (λb n=>by apply AG (AL n);exact fr b n) rfl);have:=hv.2.put (k:=JD (y.1-1)) hb.2.2.1 hb.2.2.2 (Ah 0xa12008a6a23021 rfl);refine AD (show(10+10*((n+1:Nat):Int))=10+10*n+10 by exact Ah 0x1111a2008a6a233120038a6a235 rfl)<|this
  ·intro DV m hI;refine GK hI λls G n c e hI=>En hI λhr hm hz Ol hv fr e1=>?_;(try clear hI;subst e1);obtain x5:DV x=some (.inst 325 d ["unit"] [.int u]):=by apply AG (fr x SX);exact x4
   obtain y5:DV fa=some (.di F'):=by apply AG (fr fa Qt);exact hk
   obtain k5:∀b o,b≠x->V b=some o->DV b=some o:=λb o n e=>by apply AG (fr b (neN e nM));exact k4 b o n e
   obtain hGo:T8 G:=⟨by exact AQ 0x100111640f200210a230009a22010309 rfl hz hv.1,λk v e=>by have:=hv.2 k v e;exact rR hz this⟩;refine AA<|V6 y5 [("self",some (.ref x)),("counts",some a),("unit",some (.int u)),("firsts",some (.di F')),("seconds",some (.ref sa)),("length",b.map (DA fa (.di F'))),("symbol",c.map (DA fa (.di F'))),("distance",e.map (DA fa (.di F')))] (by simp[IU,PV,E6,M,SU,Qt.symm,hC.e]) ?_
   generalize b.map (DA fa (.di F'))=b;generalize c.map (DA fa (.di F'))=c;generalize e.map (DA fa (.di F'))=e;refine V6 (show DV.del fa sa=some (.di G)by unfold Hp.del;apply AG (if_neg Qt.symm);exact Ol) [("self",some (.ref x)),("counts",some a),("unit",some (.int u)),("firsts",some (.di F')),("seconds",some (.di G)),("length",b.map (DA sa (.di G))),("symbol",c.map (DA sa (.di G))),("distance",e.map (DA sa (.di G)))] (by simp[IU,PV,E6,SX,hC.e]) ?_;generalize b.map (DA sa (.di G))=b;generalize c.map (DA sa (.di G))=c;generalize e.map (DA sa (.di G))=e;apply SI;have x6:((DV.del fa).del sa) x=some (.inst 325 d ["unit"] [.int u]):=by unfold Hp.del;refine AG (if_neg SX)<|AG (if_neg SU) ?_;exact x5
   have k6:∀b o,b≠x->V b=some o->((DV.del fa).del sa) b=some o:=λb o n e=>by
    unfold Hp.del;refine AG (if_neg (neN e nM))<|AG (if_neg (neN e m9)) ?_;exact k5 b o n e
   generalize (DV.del fa).del sa=KD at x6 k6;refine AA<|pL hFo h1 h2 λo1 K1=>AA<|Df x6 zr (by decide)<|AA<|AA<|pL hGo h1 h2 λo2 K2=>AA<|Df AS zt (by decide)<|AD set_set<|q o1 K1 o2 K2 _ (λb o n e=>by apply AG (AL n);exact k6 b o n e) AS
theorem AG3{LI LE DI u}(hC:W4 a LI LE DI)(h1:1<=u)(h2:u<=4)(q:∀o K o2 K2,Q (.ins 325 Rb [.int u,IV o K,IV o2 K2]) V):Ag w h₀ 5 325 [a,.int u] V Q:=by
 refine Ag.cv (Jg (yo _) λx d nx nd ne=>?_);obtain I':=CZ nx;refine AG4 AS hC h1 h2 λo K o2 K2 AE fr S1=>⟨rfl,?_⟩;refine .inst S1 (.sub (V:=V) (λa o e=>?_) (.done (q o K o2 K2)));obtain ax:=neN e I';unfold Hp.del;refine AG (if_neg ax)<|fr a o ax (by apply AG (AL ax);exact e)
noncomputable def mN(o:Int)(K:List (Int×Int))(c:Int):Int:=(Ak K c).getD o
noncomputable def mO(u o:Int)(K:List (Int×Int))(o2:Int)(K2:List (Int×Int))(l d:Int):Int:=(Ak K (256+JD (l-2))).getD o+(Ak K2 (JD (d-1))).getD o2+u*(HI (l-2)+HI (d-1))
theorem AG5{w h₀ V Q u o o2 c K K2}(q:Q (.int (mN o K c)) V):Ag w h₀ 2 315 [.ins 325 Rb [.int u,IV o K,IV o2 K2],.int c] V Q:=by
 refine Bg ["self","octet"] [] [] [] [] (by kernel_rfl) (by kernel_rfl)<|AA<|Ax (.inl rfl) jR rfl<|AA<|Bw (.inl rfl) (by decide) YW<|AA<|bD<|q
theorem AG6{w h₀ V Q u o o2 l d K K2}(h1:1<=u)(h2:u<=4)(q:Q (.int (mO u o K o2 K2 l d)) V):Ag w h₀ 2 322 [.ins 325 Rb [.int u,IV o K,IV o2 K2],.int l,.int d] V Q:=by
 obtain⟨tL,hLm⟩:=Ro w.params;refine Bg ["self","length","distance"] ["one","more","other","further"] ["slot_of","LEAST_MATCH"] [] [] (by kernel_rfl) (by kernel_rfl)<|AA<|PQ<|AA<|PQ<|AA<|Ax (.inl rfl) jR rfl<|AA<|Bw (.inl rfl) (by decide) YW<|AA<|bD<|AA<|Ax (.inl rfl) yX rfl<|AA<|Bw (.inl rfl) (by decide) YW<|AA<|bD<|AA<|Ax (.inl rfl) yY rfl<|AA<|w_mul (Aw 0x1120110f0f0f0f0f0f0f0f0f0f0f0f0f0f0f0f253011219 rfl h1) (Aw 0x11210f0f0f0f0f0f0f0f0f0f0f0f0f0f0f0f2013420119 rfl h2)<|q
theorem AG7{w h₀ u o o2 K K2}(h1:1<=u)(h2:u<=4):KS w h₀ (.ins 325 Rb [.int u,IV o K,IV o2 K2]) (mN o K) (mO u o K o2 K2):=
 ⟨_,_,_,_,_,rfl,by decide,by decide,zB,zC,λV o Q q=>Ag.up (AG5 q) (by decide),λV l d Q q=>Ag.up (AG6 h1 h2 q) (by decide)⟩
structure fq(w:CE)(h₀:BU)(p:MV)(flat:Bool)(lit:Int->Int)(AH:Int->Int->Int):Prop where
 Ry:KS w h₀ p lit AH
 flat:flat=true->∃a b c,0<=c/\lit=(λZ=>a)/\AH=Ld b c
theorem AE9(hb:Gl V b)
 (q:∀p flat lit AH AE,fq w h₀ p flat lit AH->Fp b V AE->Q (.tup [p,.bool flat]) AE):Ag w h₀ 6 618 [.ref b] V Q:=by
 refine Ag.cv<|Bg ["box"] ["single","steps","turn"] ["_law_take","FlatPrice","LearntPrice","counts_of","range"] [] [426] (by kernel_rfl) (by kernel_rfl) ?_
 refine AA<|DM hb (by decide) (by decide) λd CC d0 d1 B1=>AA ?_
 have S1:=(ES.refl hb).to B1;refine F6 (λhz=>?_) (λhz=>?_)
 ·refine AA<|DM S1.box (by decide) (by decide) λe Bf e0 e1 B2=>?_
  have S2:=S1.to B2;refine AA<|DM S2.box (by decide) (by decide) λe2 DC xB e21 B3=>?_
  have S3:=S2.to B3
  refine AA<|CU<|AA<|DM S3.box (by decide) (by decide) λe3 LC iQ iR B4=>?_
  have S4:=S3.to B4
  obtain⟨c,hc,c0,c1⟩:∃c:Int,([MV.int 0,.int 0,.int 1]:List MV)[e3.toNat]? =some (.int c)/\0<=c/\c<=1:=by
   have:e3=0\/e3=1\/e3=2:=by exact dc iQ iR
   rcases this with rfl|rfl|rfl
   ·exact⟨0,(AO rfl (by decide) (by decide))⟩
   ·exact⟨0,(AO rfl (by decide) (by decide))⟩
   ·exact⟨1,(AO rfl (by decide) (by decide))⟩
  refine AA<|CR BY iQ (Su iR) hc<|AA<|x8 (Aw 0x11201123021010219 rfl e0) (Bd 0x111311011233021110219010219 rfl e0 xB) c0<|S4.fin λNy B=>q _ _ _ _ _ ⟨yB c0 c1,λZ=>(BK _ _ c (AO c0 rfl rfl))⟩ B
 ·refine AA<|CU<|AA<|DM S1.box (by decide) (by decide) λe Bf e0 e1 B2=>?_
  have S2:=S1.to B2;(refine AI (aM (by decide:(3:Int)<=3) e0 e1) λv AR=>?_;refine BQ AR λhv Ox=>?_);refine AA<|CR BY e0 (Su e1) hv<|AA<|JI<|λf nf=>?_
  have CI:=CZ nf;have bf:b≠f:=λz=>by(refine Ao S2.box λx y Af=>?_;refine BQ Af λe2 Z=>?_);rw[z,CI]at e2;exact nS e2
  have m6:V f=none:=by
   cases e:V f with
   |none=>rfl
   |some o=>have:=S2.sub f o bf.symm e;rw[CI]at this;exact nS this
  have S3:=S2.new (o:=.list [.tup [.int 0,.int v]]) CI;have hf:(Bf.set f (.list [.tup [.int 0,.int v]])) f=some (.list ([((0:Int),v)].map pv)):=AS;generalize Bf.set f (.list [.tup [.int 0,.int v]])=DC at S3 hf;apply AA;let M:Option MV->Lc:=λt=>[("box",some (.ref b)),("single",none),("steps",some (.ref f)),("turn",t)];let I:List MV->Hp->Lc->Prop:=λAN AE m=>∃(l:List (Int×Int))(t:Option MV),l.length+AN.length<=6/\M4 l/\AE f=some (.list (l.map pv))/\ES b V AE/\m=M t;refine DM S3.box (by decide) (by decide) λd2 LC HY HZ B4=>?_;have Ys:LC f=some (.list ([((0:Int),v)].map pv)):=by(refine Ao B4 λx y AX=>?_;obtain Cs:=AX.1;subst Cs);refine AG (AL bf.symm) ?_;exact hf
  refine AA<|SK<|AA<|EO I (.D2 _ _ _ Sy Sz (Aw 0x112012230ff4f2f4f0f251010219 rfl HY) (Aw 0x1120ff4f2f4f0f2012231420139 rfl HZ)) (λZ Z Z Z Z=>trivial) (λZ Z Z=>trivial) (Aj [((0:Int),v)] _ (An (by simp[BP];exact Aw 0x10031013620122391230420139 rfl HZ) ?_ Ys (S3.to B4) rfl)) ?_ ?_
  ·intro y hy;refine AD (D7.mp hy)<|.inl (AO rfl (Aw 0x110311031103010210ffff201502015861f201589 rfl Ox) (Aw 0x1013101310130ffff20110ffff201502015861f201589 rfl Ox))
  ·intro mv AN AE m hI;refine Ao hI λl t hI=>Cu hI λhl hc hf S e1=>?_;subst e1;refine AA<|FN (Bi hf)<|AA<|DM S.box (by decide) (by decide) λd2 LC HY HZ B4=>?_
   have Ys:LC f=some (.list (l.map pv)):=by(refine Ao B4 λx y Ai=>?_;obtain Eb:=Ai.1;subst Eb);apply AG (AL bf.symm);exact hf
   have S4:=S.to B4;refine AA<|DM S4.box (by decide) (by decide) λd3 Ny Iu Jd B5=>?_
   obtain hf5:Ny f=some (.list (l.map pv)):=by(refine Ao B5 λx y A6=>?_;obtain Hv:=A6.1;subst Hv);apply AG (AL bf.symm);exact Ys
   obtain S5:=S4.to B5;refine AA<|FK hf5 (by simp at hl|-;exact AM 0x1011418f6faf0f2000621210300309 rfl hl) ?_
   refine Aj (l++[(2+d2,1+d3)]) _ (An (by simp at hl|-;exact AM 0x11262101200330621210300309 rfl hl) ?_ (by apply AG AS;simp[pv]) (S5.upd m6 bf) rfl);intro y hy;rcases DX.mp hy with y1|y1
   ·exact hc y y1
   ·refine AD (D7.mp y1) ?_;exact .inr (BR (by show 2<=2+d2;exact Aw 0x11201223221010219 rfl HY) (by show 2+d2<=20;exact Aw 0x11214f2012231520139 rfl HZ) (by show 1<=1+d3;exact Aw 0x11201123121010219 rfl Iu) (by show 1+d3<=20;exact Aw 0x11214f2011231820139 rfl Jd))
  ·intro AE m hI;refine Ao hI λl t hI=>Cu hI λhl hc hf S e1=>?_;subst e1;refine AA<|V6 hf [("box",some (.ref b)),("single",none),("steps",some (.lst (l.map pv))),("turn",t.map (DA f (.lst (l.map pv))))] (by simp[IU,PV,E6,M,bf])<|SI ?_
   have S6:ES b V (AE.del f):=by
    (refine Ao S.box λx y BC=>?_;refine BQ BC λe r=>?_);refine⟨(Aj x y ⟨(by unfold Hp.del;apply AG (if_neg bf);exact e),r⟩),λa o n e=>?_⟩;unfold Hp.del
    refine AG (if_neg (neN e m6))<|S.sub a o n e
   generalize AE.del f=KD at S6
   refine AA<|wk hc (by simp at hl;exact Ah 4831391537823753 rfl hl) λa LI LE DI hC=>?_
   refine AA<|CU<|AA<|DM S6.box (by decide) (by decide) λd3 S9 Iu Jd B7=>?_
   obtain⟨u,hu,u0,u1⟩:∃c:Int,([MV.int 1,.int 2,.int 4]:List MV)[d3.toNat]? =some (.int c)/\1<=c/\c<=4:=by
    have:d3=0\/d3=1\/d3=2:=by exact dc Iu Jd
    rcases this with rfl|rfl|rfl
    ·exact⟨1,(AO rfl (by decide) (by decide))⟩
    ·exact⟨2,(AO rfl (by decide) (by decide))⟩
    ·exact⟨4,(AO rfl (by decide) (by decide))⟩
   refine AA<|CR BY Iu (Su Jd) hu<|AA<|AG3 hC u0 u1 λo K o2 K2=>AA<|(S6.to B7).fin λWv B=>q _ _ _ _ _ ⟨AG7 u0 u1,λh=>by exact fT h⟩ B
noncomputable def RM(x:Int×Int):IP:=.p x.1 x.2
theorem U5(l:List (Int×Int)):l.map pv=(l.map RM).map IP.mv:=by rw[Fd];rfl
noncomputable abbrev WA(AF:List Int)(le wi mo:Int)(p:MV)(flat:Bool):MV:=.lst [.bytes AF,.lst [.int le,.int wi,.int mo],p,.bool flat]
def XY(lit:Int->Int)(AH:Int->Int->Int)(le wi mo:Int)(flat:Bool)(s AP:List Int)(bg:Nat)(part:List (Int×Int)):Prop:=
 Txt AP/\Txt s/\bg<=s.length/\s.length<=AP.length/\∀Ay,Ay<=(if le<3 then 2 else 1)->LQ lit AH Ay s AP bg le wi mo/\LQ lit AH Ay s s bg le wi mo/\EN lit AH Ay s AP bg le wi mo=part/\
  (flat=true->EN lit AH Ay s s bg le wi mo=part)/\(flat=false->Gg s le wi mo (EN lit AH Ay s s bg le wi mo) [] bg≠[]/\CQ lit AH part<=CQ lit AH (EN lit AH Ay s s bg le wi mo))/\
  (EN lit AH Ay s s bg le wi mo).length<=1000/\∀x∈EN lit AH Ay s s bg le wi mo,x.1<=1000000
theorem AE8{AF:List Int}{le wi mo:Int}{B:List Int}(hb:Gl V b)(T:Txt AF)(hN:AF.length<=20)(H:HV le wi mo)(P:KS w h₀ p lit AH)
 (h1:1<=steps.length) (h2:steps.length<=20) (hB:∀k,k<=steps.length->∃n:Nat,B[k]? =some (n:Int)/\n<=20)
 (ok:∀one two b1 b2 Aa:Nat,one<two->two<=steps.length->B[one]? =some (b1:Int)->B[two]? =some (b2:Int)->(Aa:Int)<=max 0 ((b1:Int)-wi)->
  b1<=b2/\Aa<=b1/\XY lit AH le wi mo flat (A3 (A3 AF (some (Aa:Int)) none) none (some ((b2:Int)-Aa))) (A3 AF (some (Aa:Int)) none) (b1-Aa) (A3 steps (some (one:Int)) (some (two:Int))))
 (q:∀AE,Fp b V AE->Q (.bool true) AE):Ag w h₀ 14 663 [.ref b,WA AF le wi mo p flat,.lst (steps.map pv),.lst (B.map .int)] V Q:=by
 refine Bg ["box","world","steps","borders"] ["text","shape","price","flat","one","two","cut","part","seen","begin","end","unseen"] ["_law_take","_law_told","_law_borders","price_of","len","max"] [] [] (by kernel_rfl) (by kernel_rfl)<|AA ?_
 let M:Option MV->Option MV->Option MV->Option MV->Option MV->Option MV->Option MV->Option MV->Lc:=λa c d e f g h i=>[("box",some (.ref b)),("world",some (WA AF le wi mo p flat)),("steps",some (.lst (steps.map pv))),("borders",some (.lst (B.map .int))),("text",some (.bytes AF)),("shape",some (.lst [.int le,.int wi,.int mo])),("price",some p),("flat",some (.bool flat)),("one",a),("two",c),("cut",d),("part",e),("seen",f),("begin",g),("end",h),("unseen",i)];refine J5 BY (by simp;exact Wk h2)<|AA<|DM hb (by simp;exact Ah 4820259546599945 rfl h1) (by simp;exact Ah 0x11210f0f0f0f0f0f0f0f0f0f0f0f0f0f0f2008314f20009 rfl h2) λd CC d0 d1 B1=>?_
 obtain⟨one,rfl⟩:=LG d0;simp only[Fc]at d1;refine AA<|J5 BY (by simp;exact Wk h2) ?_
 refine AA<|J5 BY (by simp;exact Wk h2) ?_
 refine AA<|DM B1.box (by simp;exact Sl d1) (by simp;exact AM 0x1011410f0f0f0f0f0f0f0f0f0f0f0f0f0f0f21080084314f20009 rfl h2) λd Bf e0 e1 B2=>?_
 obtain⟨dd,rfl⟩:=LG e0;simp only[Fc]at e1;have eD:=B1.trans B2;refine AA ?_;obtain⟨two,Ow⟩:∃two:Nat,((XN pv steps).length:Int)-(dd:Int)=two:=⟨steps.length-dd,by simp;exact AQ 0x100011611031003100310004810800845208008410839 rfl e1⟩;refine AD Ow ?_;simp only[Fc]at Ow;(refine AI (hB one (KC d1)) λb1 AR=>?_;refine BQ AR λHf vD=>?_);(refine AI (hB two (AQ 0x100110610000008208108459 rfl Ow)) λb2 Af=>?_;refine BQ Af λLi b2z=>?_);refine CR (x:=.int b1) BY (d0) (rS h2 d1) (by refine AG (EU)<|AD (HR ..)<|AD Hf ?_;rfl) ?_;refine AA<|CR (x:=.int wi) BY (by decide) (by decide) rfl<|AA<|Kx<|AA<|DM eD.box (Bp 0x1021121201008402b3023 rfl) (by have:=H.w1;exact Bp 0x100041011410f0f0f0f0f0f0f0f0f0f0f0f0f0f0f21201008402b3301121914f20009 rfl vD this) λd DC f0 f1 B3=>?_
 obtain⟨Aa,rfl⟩:=LG f0;have eE:=eD.trans B3;(refine En (ok one two b1 b2 Aa (CM 0x1011410002108308208459008208430839 rfl e1 Ow) (AQ 0x100110610000008208108459 rfl Ow) Hf Li (Bm 0x1010411104111041010401108402b00811201108402b300839 rfl f1)) λo1 o2 oT PH o3 o4 o5=>?_);refine HH (M (some (.int one)) (some (.int two)) none none none none none none) rfl<|AA<|Ng BY (by simp;exact LB h2) (λi hi=>(by(have zI:=Au hi;(try clear hi;subst zI));exact d0)) (λi hi=>(by(have zI:=Au hi;(try clear hi;subst zI));exact ER)) ?_
 refine AA<|IW (LB hN) (λi hi=>(by(have zI:=Au hi;(try clear hi;subst zI));exact f0)) (λi hi=>(nS hi)) ?_
 have sl:(A3 AF (some (Aa:Int)) none).length<=20:=by unfold A3;simp;exact AM 0x101141014f2300014f20009 rfl hN
 generalize Ap5:A3 AF (some (Aa:Int)) none=AP at sl o3 o4 o5 oT PH|-;obtain xJ:A3 (steps.map pv) (some (one:Int)) (some (two:Int))=(A3 steps (some (one:Int)) (some (two:Int))).map pv:=by unfold A3;simp
 refine AD xJ ?_;generalize Ap3:A3 steps (some (one:Int)) (some (two:Int))=part at o5|-;refine HH (M (some (.int one)) (some (.int two)) (some (.int Aa)) none none none none none) rfl<|AA<|CR (x:=.int b1) BY (d0) (rS h2 d1) (by refine AG (EU)<|AD (HR ..)<|AD Hf ?_;rfl) ?_
 refine AA<|CR (x:=.int b2) BY ER (AQ 0x1001101780f0f0f0f0f0f0f0f0f0f0f0f0f0f0f2008300820810845914f21009 rfl h2 Ow) (by refine AG (EU)<|AD (HR ..)<|AD Li ?_;rfl) ?_
 refine HH (M (some (.int one)) (some (.int two)) (some (.int Aa)) (some (.lst (part.map pv))) (some (.bytes AP)) none none none) rfl<|AA<|IW (by have:=oT.len;exact LB sl) (λi hi=>(nS hi)) (λi hi=>(by(have zI:=Au hi;(try clear hi;subst zI));exact Wl o1 o2)) ?_
 refine HH (M (some (.int one)) (some (.int two)) (some (.int Aa)) (some (.lst (part.map pv))) (some (.bytes AP)) (some (.int (b1-Aa:Nat))) (some (.int ((b2:Int)-Aa))) none) (by refine AD (show((b1-Aa:Nat):Int)=(b1:Int)-(Aa:Int)from s9 o2) ?_;rfl) ?_;generalize hs:A3 AP none (some ((b2:Int)-Aa))=s' at o3 o4 o5 PH|-;refine AA<|RV eE.box PH oT (dq sl) o3 o4 H P (λAy hw=>(o5 Ay hw).1) λAy LC hw B4=>?_
 have eF:=eE.trans B4;(refine En (o5 Ay hw) λw1 w2 w3 w4 w5 w6 w7=>?_);refine AD w3<|AA<|J9 (part.map RM) (part.map RM) (.inl (AD (A0 (U5 ..)) rfl)) (.inl (AD (A0 (U5 ..)) rfl))<|AA<|GU (λh=>absurd rfl h) (λZ=>?_)
 refine AA<|IW (LB sl) (λi hi=>(nS hi)) (λi hi=>(by(have zI:=Au hi;(try clear hi;subst zI));exact Wl o1 o2)) ?_
 refine AA<|IW (LB sl) (λi hi=>(nS hi)) (λi hi=>(by(have zI:=Au hi;(try clear hi;subst zI));exact Wl o1 o2)) ?_
 refine AA<|AD hs<|RV eF.box PH PH (AM 0x11133ef7f200010000914f21009 rfl sl o4) o3 (BX _) H P (λAy hw=>(o5 Ay hw).2.1) λHM Ny Lr B5=>?_
 have eG:=eF.trans B5;(refine En (o5 HM Lr) λw1 w2 w3 w4 w5 w6 w7=>?_);refine AA ?_;cases flat with
 |true=>
  refine AD (w4 rfl)<|AA<|V8 (part.map RM) (part.map RM) (.inl (AD (A0 (U5 ..)) rfl)) (.inl (AD (A0 (U5 ..)) rfl)) ?_
  refine AD (decide_eq_true rfl)<|q _ eG
 |false=>
  obtain⟨v1,v2⟩:=w5 rfl;generalize EN lit AH HM s' s' (b1-Aa) le wi mo=un at v1 v2 w6 w7|-;refine AA<|IW (LB sl) (λi hi=>(nS hi)) (λi hi=>(by(have zI:=Au hi;(try clear hi;subst zI));exact Wl o1 o2)) ?_
  refine AA<|AD hs<|Ze PH (AM 72639377423237153 rfl) w6 w7 (CM 0x10000061000106100000610110163ef8f2100048130200920100040914f23009 rfl sl o3 o4)<|AA<|CU<|AA<|J9 ((Gg s' le wi mo un [] (b1-Aa:Nat)).map IP.i) [] (.inl (AD (A0 (O0 ..)) rfl)) (.inl rfl)<|AA<|GU (λZ=>?_) (λh=>absurd (te.mp h) v1)
  refine AA<|NX P rfl<|AA<|NX P rfl ?_
  show Q (.bool (decide (CQ lit AH part<=CQ lit AH un))) Ny;refine AD (decide_eq_true v2)<|q _ eG
theorem xv(P):FD P 668 (Dc P 668) (M0 P 668):=⟨(BK _ _ _ rfl),rfl,rfl,rfl,rfl,rfl,rfl,rfl,rfl⟩
def JoinOk(lit:Int->Int)(AH:Int->Int->Int)(AF:List Int)(le wi mo:Int)(steps:List (Int×Int))(B Ew:List Int)(start place:Nat):Prop:=
 ∀Ay HM,Ay<=(if le<3 then 2 else 1)->HM<=(if le<3 then 2 else 1)->LQ lit AH Ay (A3 AF none (some (place:Int))) AF start le wi mo/\LQ lit AH HM AF AF place le wi mo/\
  (let joined:=EN lit AH Ay (A3 AF none (some (place:Int))) AF start le wi mo++EN lit AH HM AF AF place le wi mo
   let I9:=Gg AF le wi mo joined [] start;(place:Int)∈I9/\joined.length<=1000/\(∀x∈joined,x.1<=1000000)/\I9.length<=1000/\((place:Int)∉Ew->CQ lit AH steps<CQ lit AH joined)/\
   ((place:Int)∈Ew->∀O_∈I9,O_∈B->CQ lit AH (steps.take (B.idxOf O_))+CQ lit AH (joined.drop (I9.idxOf O_))=CQ lit AH steps))
theorem AE6{B Ew start}(hb:Gl V b)(T:Txt AF)(hN:AF.length<=20)(H:HV le wi mo)(P:KS w h₀ p lit AH)
 (h2:steps.length<=20) (hs:start<=AF.length) (hB0:B[0]? =some (start:Int)) (hBl:B.length<=21) (jw:Ew≠[]) (Uj:Ew.length<=21) (hR:∀x∈Ew,(start:Int)<=x/\x<=AF.length)
 (ok:∀place:Nat,start<=place->place<=AF.length->JoinOk lit AH AF le wi mo steps B Ew start place)
 (q:∀AE,Fp b V AE->Q (.bool true) AE):Ag w h₀ 14 668 [.ref b,WA AF le wi mo p flat,.lst (steps.map pv),.lst (B.map .int),.lst (Ew.map .int)] V Q:=by
 refine YH (B:=[499]) (n:=13) (ps:=["box","world","steps","borders","reached"]) (ls:=["text","shape","price","flat","start","whole","others","lost","some","place","joined","marks","mark","ahead","behind"]) (G:=["_law_take","_law_told","_law_borders","price_of","len","range"]) (dm:=[]) (dv:=[]) (C:=["borders","reached"]) (xv _) (gM 5 ?_) (λZ Z=>trivial) (by decide) rfl rfl ?_
 ·intro v0 v1 v2 v3 v4 S;kernel_rfl
 refine AA<|CR BY (by decide) (by decide) (by refine AG (EU)<|AD (show(0:Int).toNat=0 from rfl)<|AD hB0 ?_;rfl) ?_
 refine AA<|NX P rfl<|AA<|Pe (ns:=Ew) (λk=>!decide (k∈B)) .int (.lst _ _) trivial (du Uj) rfl (λk f K' hk kt kf=>?_) ?_
 ·refine AA<|V_ (ns:=B) BY<|AA ?_
  exact GU (λh=>kt _ (by refine AD (decide_eq_false h) ?_;rfl)) (λh=>kf _ (by refine AD (decide_eq_true h) ?_;rfl))
 obtain hO:∀x∈(Ew.filter λk=>!decide (k∈B)),(start:Int)<=x/\x<=AF.length:=λx hx=>hR x (Ez.mp hx).1;obtain Yc:=Ek (QD (λk=>!decide (k∈B)) Ew) Uj;generalize (Ew.filter λk=>!decide (k∈B))=O at hO Yc|-;refine AA<|FL (Wk hN)<|AA<|J7<|AA<|Pe (ns:=BP (start:Int) ((AF.length:Int)+1)) (λk=>!decide (k∈Ew)) .int (.D2 _ _ _ Mb (AM 0x11130ff4f2f4f0f2008110000914f21009 rfl hN hs) Sv (Ah 0x1120ff4f2f4f0f2120083114f20009 rfl hN)) trivial (by simp[BP];exact AM 0x101141018f6faf0f2312003014f20009 rfl hN) rfl (λk f K' hk kt kf=>?_) ?_
 ·refine AA<|V_ (ns:=Ew) BY<|AA ?_
  exact GU (λh=>kt _ (by refine AD (decide_eq_false h) ?_;rfl)) (λh=>kf _ (by refine AD (decide_eq_true h) ?_;rfl))
 obtain hL:∀x∈((BP (start:Int) ((AF.length:Int)+1)).filter λk=>!decide (k∈Ew)),(start:Int)<=x/\x<=AF.length:=λx hx=>by
  obtain this:=PL (Ez.mp hx).1;exact Bm 0x11031013108011010081712108301301008179 rfl this
 obtain Ui:=Ek (QD (λk=>!decide (k∈Ew)) (BP (start:Int) ((AF.length:Int)+1))) (show(BP (start:Int) ((AF.length:Int)+1)).length<=21 by simp[BP];exact AM 0x101141015f2312003014f20009 rfl hN);generalize ((BP (start:Int) ((AF.length:Int)+1)).filter λk=>!decide (k∈Ew))=L at hL Ui|-;refine AA ?_;let M:Option MV->Option MV->Option MV->Option MV->Option MV->Option MV->Option MV->Lc:=λd e f g h i j=>[("box",some (.ref b)),("world",some (WA AF le wi mo p flat)),("steps",some (.lst (steps.map pv))),("borders",some (.lst (B.map .int))),("reached",some (.lst (Ew.map .int))),("text",some (.bytes AF)),("shape",some (.lst [.int le,.int wi,.int mo])),("price",some p),("flat",some (.bool flat)),("start",some (.int start)),("whole",some (.int (CQ lit AH steps))),("others",some (.lst (O.map .int))),("lost",some (.lst (L.map .int))),("some",d),("place",e),("joined",f),("marks",g),("mark",h),("ahead",i),("behind",j)];refine SI<|oa (M none none none none none none none) rfl<|iD 4000 (λAE m'=>∃S:List Int,m'=M (some (.lst (S.map .int))) none none none none none none/\Fp b V AE/\S≠[]/\S.length<=21/\∀x∈S,(start:Int)<=x/\x<=AF.length) ?_ λJ=>?_
 ·intro DC m3 hI;(refine AI hI λS AR=>?_;refine Cu AR λC4 S3 jx M' jy=>?_;clear AR;try clear hI;subst C4);clear hO hL Yc Ui;refine AA<|J5 BY (by simp;exact dw M') ?_
  apply AA;obtain Ye:1<=S.length:=tZ.mpr jx;refine DM S3.box (by simp;exact Ah 4820259546599945 rfl Ye) (by simp;exact Ah 0x11210f0f0f0f0f0f0f0f0f0f0f0f0f0f0f2008315f20009 rfl M') λd LC d0 d1 B4=>?_;simp only[Fc]at d1;obtain S4:=S3.trans B4;clear B4 S3;obtain EB:d.toNat<S.length:=by exact Bp 0x10014101040001920080139001209 rfl Ye d1
  obtain hx:=jy _ (N_ EB);obtain⟨place,I7⟩:=LG (show 0<=S[d.toNat]by exact Bm 0x110140102110801101008179 rfl hx);refine AA<|CR (x:=.int place) BY d0 (Bp 0x111380f0f0f0f0f0f0f0f0f0f0f0f0f0f0f2013008013915f20009 rfl M' d1) (by refine AG (EU)<|AD (Ee EB)<|AD I7 ?_;rfl) ?_
  rw[I7]at hx;clear EB I7 jy M' jx Ye d0 d1;obtain K:=ok place (AQ 0x1013100002081081108008179 rfl hx) (AQ 0x1103100001080081008208179 rfl hx);obtain hW:0<=(if le<3 then 2 else 1):=JX _;obtain sl:(A3 AF none (some (place:Int))).length=place:=by unfold A3;simp;exact AQ 0x10104110041000410004001000a41080081008208179 rfl hx
  obtain Tp:Txt (A3 AF none (some (place:Int))):=⟨λx hx=>T.oct x (aS hx),by exact CM 0x10110163ef8f2000100049308108110820817914f23009 rfl hN hx sl⟩;refine AA<|IW (LB hN) (λi hi=>(nS hi)) (λi hi=>(by(obtain zI:=Au hi;subst zI);exact ER)) ?_
  refine AA<|RV S4.box Tp T (dq hN) (CM 0x110015100002010493082081208008179 rfl hx sl) (CM 0x101105100002000491082081208308179 rfl hx sl) H P (λAy hw=>(K Ay 0 hw hW).1) λAy Ny hw B5=>?_
  obtain S5:=S4.trans B5;clear B5 S4;refine AA<|RV S5.box T T (dq hN) (AQ 0x1103100001080081008208179 rfl hx) (BX _) H P (λHM Lr=>(K Ay HM hw Lr).2.1) λHM KD Lr B6=>?_
  obtain S6:=S5.trans B6;clear B6 S5;(refine QS (K Ay HM hw Lr) λZ Z j1 j2 j3 j4 j5 j6=>?_);clear K;refine AA<|bR (l:=(EN lit AH Ay (A3 AF none (some (place:Int))) AF start le wi mo).map pv) (r:=(EN lit AH HM AF AF place le wi mo).map pv) (.inl rfl) (.inl rfl) (by refine AD (A0 Tc)<|AD (A0 QE)<|AD (Fc ..) ?_;exact Ic j2) ?_
  refine AD (A0 QE) ?_;generalize EN lit AH Ay (A3 AF none (some (place:Int))) AF start le wi mo++EN lit AH HM AF AF place le wi mo=joined at j1 j2 j3 j4 j5 j6|-;refine AA<|Ze T ER j2 j3 (AM 0x11133ef8f2008110000914f21009 rfl hN hs) ?_
  generalize Gg AF le wi mo joined [] start=I9 at j1 j4 j6|-;refine AA<|V_ (ns:=I9) BY<|AA<|GU (λh=>absurd j1 h) (λZ=>?_)
  refine AA<|V_ (ns:=Ew) BY<|AA<|GU (λh=>?_) (λh=>?_)
  ·refine AA<|NX P rfl ?_
   show Q (.bool (decide (CQ lit AH steps<CQ lit AH joined))) KD;refine AD (decide_eq_true (j5 h))<|q _ S6
  obtain J6:=j6 h;clear j5 j6 j1;refine AA<|Pe (ns:=I9) (λk=>decide (k∈B)) .int (.lst _ _) trivial (Ic j4) rfl (λk f K' hk kt kf=>?_) ?_
  ·refine AA<|Ai6 (ns:=B) BY<|AA<|BW (λh=>kt _ (decide_eq_true h)) (λh=>kf _ (decide_eq_false h))
  apply AA;let Dy:List MV->Hp->Lc->Prop:=λAN AE m=>∃(xs:List Int)(c d e:Option MV),AN=xs.map .int/\(∀x∈xs,x∈I9/\x∈B)/\AE=KD/\m=M (some (.lst (S.map .int))) (some (.int place)) (some (.lst (joined.map pv))) (some (.lst (I9.map .int))) c d e;refine Ah3 Dy ?_ ?_ ?_
  ·exact(Ar _ none none none (BR rfl (λx hx=>⟨(Ez.mp hx).1,of_decide_eq_true (Ez.mp hx).2⟩) rfl rfl))
  ·intro mv AN AE m hI;(refine Bc hI λxs c d e AX=>?_;refine G5 AX λhr hm Cs Nk=>?_;clear AX;try clear hI;(try clear S6;subst Cs);subst Nk);cases xs with
   |nil=>exact cN hr
   |cons x xs=>
    (obtain zI:=N9 hr;obtain zJ:=zI.1;obtain zK:=zI.2;clear zI;subst zJ;subst zK);obtain⟨D5,EC⟩:=hm x (.head _);obtain hJ:=J6 x D5 EC;refine AA<|qD BY<|AA<|qB BY EC (du hBl)<|AA<|Ng BY (by simp;exact LB h2) (λi hi=>(nS hi)) (λi hi=>(by(obtain zI:=Au hi;subst zI);exact ER)) ?_
    refine AD (show A3 (steps.map pv) none (some ((B.idxOf x:Nat):Int))=(steps.take (B.idxOf x)).map pv by simp[A3,Tf])<|AA<|qD BY<|AA<|qB BY D5 (Ic j4)<|AA<|Ng BY (by simp;exact Ic j2) (λi hi=>(by(obtain zI:=Au hi;subst zI);exact ER)) (λi hi=>(nS hi)) ?_
    refine AD (show A3 (joined.map pv) (some ((I9.idxOf x:Nat):Int)) none=(joined.drop (I9.idxOf x)).map pv by simp[A3,fR,Tj])<|AA<|NX P rfl<|AA<|NX P rfl<|AA<|NY (λh=>absurd hJ h) (λZ=>(Ar xs _ _ _ (BR rfl (λy hy=>hm y (.tail _ hy)) rfl rfl)))
  ·intro AE m hI;(refine Bc hI λxs c d e A5=>?_;refine G5 A5 λhr hm Ex Hv=>?_;clear A5;try clear hI;subst Ex;subst Hv);exact q _ S6
 ·refine AA<|CU<|AA<|J9 (O.map IP.i) [] (.inl (AD (O0 ..) rfl)) (.inl rfl)<|AA<|GU (λLh=>?_) (λLh=>?_)
  ·refine AA<|DM hb (by decide) (by decide) λd DC d0 d1 B3=>AA<|BW (λhd=>?_) (λhd=>?_)
   ·exact AA (J _ _ _ ⟨O,(An rfl B3 (λz=>Lh (by refine AD z ?_;rfl)) Yc hO)⟩ rfl)
   ·refine AA<|CU<|AA<|J9 (L.map IP.i) [] (.inl (AD (O0 ..) rfl)) (.inl rfl)<|AA<|GU (λLh=>?_) (λLh=>?_)
    ·exact AA (J _ _ _ ⟨L,(An rfl B3 (λz=>Lh (by refine AD z ?_;rfl)) Ui hL)⟩ rfl)
    ·exact AA (J _ _ _ ⟨Ew,(An rfl B3 jw Uj hR)⟩ rfl)
  ·refine AA<|De<|AA<|CU<|AA<|J9 (L.map IP.i) [] (.inl (AD (O0 ..) rfl)) (.inl rfl)<|AA<|GU (λLh=>?_) (λLh=>?_)
   ·exact AA (J _ _ _ ⟨L,(An rfl (.refl hb) (λz=>Lh (by refine AD z ?_;rfl)) Ui hL)⟩ rfl)
   ·exact AA (J _ _ _ ⟨Ew,(An rfl (.refl hb) jw Uj hR)⟩ rfl)
section
variable{X:Cx}{scope:E4}{ls fs G:List AV}{V:Hp}{m:Lc}
noncomputable abbrev Hl(Av A4 iter EL Du:Expr)(scope:E4)(pos:G4):Expr:=.ListComp Av [⟨A4,iter,[],0⟩,⟨EL,Du,[],0⟩] scope pos
noncomputable def OW(Av A4 iter EL Du:Expr)(scope:E4)(pos:G4)(env:FX)(acc:Ap):EG Unit:=do
 let x<-Ab Du env;JE Du.pos;let x<-Jf Du env x;let _<-runOwn (.compStart (Hl Av A4 iter EL Du scope pos) 1 (<-Jl [x] (R0 x)) acc env) env
theorem AB0(Av A4 iter EL Du)(scope)(pos)(it acc)(env):
 M5 (Hl Av A4 iter EL Du scope pos) 0 it acc env=O9 (Hl Av A4 iter EL Du scope pos) 0 A4 [] iter.pos it acc env (OW Av A4 iter EL Du scope pos env):=by
 unfold O9 OW;simp only[bind_assoc];rfl
theorem AB1(Av A4 iter EL Du)(scope)(pos)(it acc)(env):
 M5 (Hl Av A4 iter EL Du scope pos) 1 it acc env=O9 (Hl Av A4 iter EL Du scope pos) 1 EL [] Du.pos it acc env (Qm Av env):=by rfl
theorem o_(d)(hd:d=0\/d=1)(BZ)(I0)(acc)(R)(s)
 (h:∀(Q:Ap->Bq->Prop)E,Q (.ref I0) s->Aq (A7 BJ w) A (R0 (.ref I0)) Q E s) (h0:GI (A7 BJ w) A (.compLoop (Hl Av A4 iter EL Du scope pos) d (.ref I0) acc BZ) R s):
 GI (A7 BJ w) A (.compStart (Hl Av A4 iter EL Du scope pos) d (.ref I0) acc BZ) R s:=by
 apply wZ;rcases hd with rfl|rfl
 ·show Aq _ _ ((compStart (Hl Av A4 iter EL Du scope pos) 0 (.ref I0) acc BZ).onRaise (λx=>do VO x BZ;JE AY8)) _ _ s;apply Ak2;unfold compStart;show Aq _ _ (ud>>=_) _ _ s;refine Ae (qM (wpAny_ite ?_));split
  ·first
    |exact Ae (BN (BN (P5 rfl h0)))
    |exact BN (P5 rfl h0)
  ·exact Ae (bh (Ae (J_ (Ae (Bz (h _ _ h0) (λit' s' h'=>BN (P5 rfl h')) λZ Z x=>x)))))
 ·show Aq _ _ ((compStart (Hl Av A4 iter EL Du scope pos) 1 (.ref I0) acc BZ).onRaise (λx=>do VO x BZ;JE AY8)) _ _ s;apply Ak2;unfold compStart;show Aq _ _ (ud>>=_) _ _ s;refine Ae (qM (wpAny_ite ?_));split
  ·first
    |exact Ae (BN (BN (P5 rfl h0)))
    |exact BN (P5 rfl h0)
  ·exact Ae (bh (Ae (J_ (Ae (Bz (h _ _ h0) (λit' s' h'=>BN (P5 rfl h')) λZ Z x=>x)))))
theorem xE(Hi:DQ mo=none)
 (h:TR X VR (Ab Du X.env) V m λv V m=>∃items P,FF v V items P/\∃I:List MV->MO->Hp->Lc->Prop,(∀mv AN mo V m,I (mv::AN) mo V m->P V)/\(∀mo V m,I [] mo V m->P V)/\I items mo V m/\
  (∀mv AN mo V m,I (mv::AN) mo V m->TA X EL mv V m λV m=>EM X (Qm Av X.env) mo V m (λCS V m=>I AN CS V m))/\(∀mo V m,I [] mo V m->Q mo V m))
 (Hg:∀x,Jf Du X.env x=pure x):EM X (OW Av A4 iter EL Du scope pos X.env) mo V m Q:=λs D acc hs ha ho=>by
 unfold OW;refine Ae (TR.go h hs λv AJ mv Ad m₁ Ac h1 h2 h3 h4 h5=>?_);(refine Ao h5 λitems P Af=>?_;obtain io:=Af.1;obtain AX:=Af.2;refine AI AX λI A9=>?_;obtain hP:=A9.1;obtain F2:=A9.2.1;obtain hI:=A9.2.2.1;obtain turn:=A9.2.2.2.1;obtain fin:=A9.2.2.2.2;clear A9 AX Af;try clear h5);refine Ae (J_ (Ae (IX (Hg v) ?_)));obtain He:=ha.step hs.rs.live h2;obtain ho1:=VU hs.rs hs.DT ha Hi h2 ho;refine Ae (F9 (It.start io h1 h4 λob S it S0 Rl=>?_));obtain Ik:AJ.heap.get? AJ.heap.objs.size=none:=FA _;obtain gI:=Dx AJ.heap Rl;generalize AJ.heap.objs.size=I0 at*;refine Cp λGz BI=>?_;obtain⟨r2,Jz⟩:=h1.rs.QX (h':=AJ.heap.push ob) (N:=λb=>b=I0) (λa o e=>DD _ e) (λb e=>⟨(by refine AD e ?_;exact Ik),⟨ob,(by refine AD e ?_;exact gI)⟩⟩);obtain IF:=h1.next r2 Jz;obtain AI5:¬Own X.env I0:=λo=>by obtain⟨x,e⟩:=h1.rs.live I0 (h1.fr.own I0 o).1;exact CO e Ik
 obtain AJ5:¬foot Ad I0:=λf=>by obtain⟨x,e⟩:=Iw h1.rs f;exact CO e Ik
 have nB:s.heap.get? I0=none:=by
  cases e:s.heap.get? I0 with
  |none=>rfl
  |some o=>obtain⟨o',q⟩:=h2.live _ _ e;exact(CO q Ik).elim
 obtain ne:I0≠acc:=λz=>by obtain⟨o,e⟩:=h1.rs.live acc He.inD;rw[<-z]at e;exact CO e Ik
 obtain loop:=iC (X:=X) (e:=Hl Av A4 iter EL Du scope pos) (depth:=1) (A4:=EL) (ifs:=[]) (p:=Du.pos) (emit:=Qm Av X.env) (I0:=I0) (acc:=acc) (items:=items) (P:=P) (S:=S) (mo:=mo) (s:={AJ with heap:=AJ.heap.push ob})
  (Q:=Q) (AB1 _ _ _ _ _ _ _ _ _ _) rfl (λZ Z Z h=>h) I (B:=D) (hB:=s.heap) (FU:=V) hs.rs.live ((h2.JA λZ z=>.inl z).trans hs.rs.live (Jz.JA λZ z=>z.elim)) nB IF it S0
  ⟨.inr rfl,AJ5,AI5⟩ ⟨.inl He.inD,He.nf,He.no⟩ ne (VU h1.rs h1.DT He Hi Jz.Hn ho1) Hi hP F2 hI
  (λmv AN mo V m z s D v hs hv=>Bz (turn mv AN mo V m z s D v hs hv) (λZ AJ p=>by
   (refine Bc p λu Ad m₁ Ac Ai=>?_;obtain k1:=Ai.1;obtain k2:=Ai.2.1;obtain k3:=Ai.2.2.1;obtain k4:=Ai.2.2.2.1;obtain k5:=Ai.2.2.2.2;clear Ai;try clear p);exact(Ar u Ad m₁ Ac (An k1 k2 k3 k4 (bM k5)))) λZ Z x=>x) fin
 apply BI;clear BI Gz
 refine Ae (wpAny_runOwn (o_ 1 (.inr rfl) X.env I0 (.ref acc) _ _ (λQ E q=>it.self 0 _ _ _ S0 Q E q) (LV loop λr s' p=>?_)))
 (refine Bc p λAE m' D' CS A5=>?_;obtain Ex:=A5.1;obtain p1:=A5.2.1;obtain p2:=A5.2.2.1;obtain p3:=A5.2.2.2.1;obtain p4:=A5.2.2.2.2.1;obtain p5:=A5.2.2.2.2.2.1;obtain p6:=A5.2.2.2.2.2.2.1;obtain p7:=A5.2.2.2.2.2.2.2;clear A5;try clear p;subst Ex)
 refine BN (Ar AE m' D' CS (Cc p1 ⟨p2.GJ,p2.H9,p2.F0,λa o e f n=>p2.keep a o e f λz=>?_,p2.live⟩ (h3.trans (CV.trans (b:={AJ with heap:=AJ.heap.push ob}) ⟨rfl,rfl,rfl⟩ p3)) p4 p5 p7));rcases z with z|z|z
 ·exact n (.inl z)
 ·exact n (.inr z)
 ·rw[z]at e;exact CO e nB
theorem AZ9(F:CF scope ls fs G)
 (FH:X.env.kindOf x=some .local->X.env.scope.kind=.function->HJ (Hl Av A4 iter EL Du scope pos) (some (TH x px)) pos'.line X.env=pure true) (hx:BG m x=true/\X.C.contains x=false)
 (Ke:∀x∈fs,BG m x=true/\X.C.contains x=true)
 (h:TR X VR (Ab iter X.env) V m λv V m=>(∀x∈fs,BG m x=true/\X.C.contains x=true)/\∃items P,FF v V items P/\∃I:List MV->MO->Hp->Prop,
  (∀mv AN mo V,I (mv::AN) mo V->P V)/\(∀mo V,I [] mo V->P V)/\I items (.list []) V/\
  (∀C mv AN mo V f,I (mv::AN) mo V->TA (Dm X scope C G fs) A4 mv V (C9 ls f fs m) λV m'=>
   EM (Dm X scope C G fs) (OW Av A4 iter EL Du scope pos (Dm X scope C G fs).env) mo V m' (λCS V L3=>Good ls fs m L3/\I AN CS V))/\
  (∀mo V,I [] mo V->∃l,mo=.list l/\BG m x=true/\∀a,¬foot V a->Q .next (V.set a (.list l)) (DS m x (.ref a))))
 (Hg:∀x,Jf iter X.env x=pure x):TR X RF (Cj (.Assign [.Name x px] (Hl Av A4 iter EL Du scope pos) pos') X.env) V m Q:=λs D hs=>by
 obtain hk:=hs.kd x hx.1;rw[if_neg (by rw[hx.2];decide)]at hk;refine AD (iq _ _ _ _ (FH hk hs.fr.kind))<|Ae (J_ (Ae ?_))
 show Aq _ X.A (do let _<-UO (Hl Av A4 iter EL Du scope pos) scope X.env _ (newList []) false (Ab iter X.env) (some (G6 (.Name x px) X.env))) _ _ s;refine Ae (Bz (Q:=λZ s'=>AW X RF D s V Q TJ s') (h_ (K:=λmo V m=>∃l,mo=.list l/\BG m x=true/\∀a,¬foot V a->Q .next (V.set a (.list l)) (DS m x (.ref a))) F (A4:=A4) (ifs:=[]) (emit:=λenv=>OW Av A4 iter EL Du scope pos env) (PD:=.list []) rfl Hg mw rfl (λD h a e Z=>(Aj (#[]) 0 ⟨e,trivial⟩)) rfl (λBZ I0 acc R s=>o_ 0 (.inl rfl) BZ I0 acc R s) (λBZ I0 acc=>AB0 _ _ _ _ _ _ _ _ _ _) (λZ Z Z=>rfl) (λZ Z Z Z Z Z h=>h) hs Ke
  (TR.mono h λv V m zP=>by
   refine Cp λGz BI=>?_;obtain⟨hf,items,P,io,I,hP,F2,hI,turn,hK⟩:=zP;apply BI;clear BI Gz;exact⟨hf,items,P,io,I,hP,F2,hI,λC mv AN mo V f z s D v hs hv=>Bz (turn C mv AN mo V f z s D v hs hv) (λZ AJ p=>by
    (refine Bc p λu Ad m₁ Ac A2=>?_;obtain k1:=A2.1;obtain k2:=A2.2.1;obtain k3:=A2.2.2.1;obtain k4:=A2.2.2.2.1;obtain k5:=A2.2.2.2.2;clear A2;try clear p);exact(Ar u Ad m₁ Ac (An k1 k2 k3 k4 (bM k5)))) λZ Z x=>x,hK⟩) ?_) (λZ s' p=>BN (BN p)) λZ Z x=>x)
 intro acc AJ Ad m₁ Ac mo a b c d Dh C mm hN dC nf no nC;(refine AI Dh λl BC=>?_;obtain K4:=BC.1;obtain e:=BC.2;clear BC;try clear Dh;subst K4);exact X1 hs a b c e.1 (by simp only[AZ]) hN dC nf no nC (e.2 acc d)
end
structure fE(lit:Int->Int)(AH:Int->Int->Int)(flat:Bool)(AF:List Int)(le wi mo:Int)(start:Nat)(steps:List (Int×Int))(B:List Int)(E:C6)(D:Nat->Nat->Int)(R:List Nat):Prop where
 s1:1<=steps.length
 s2:steps.length<=20
 s3:∀x∈steps,x.1<=1000000
 bl:B.length=steps.length+1
 bk:∀k,k<=steps.length->∃n:Nat,B[k]? =some (n:Int)/\start<=n/\n<=AF.length
 b0:B[0]? =some (start:Int)
 bm:∀(k j kb jb:Nat),k<=j->B[k]? =some (kb:Int)->B[j]? =some (jb:Int)->kb<=jb
 part:∀one two b1 b2 Aa:Nat,one<two->two<=steps.length->B[one]? =some (b1:Int)->B[two]? =some (b2:Int)->(Aa:Int)<=max 0 ((b1:Int)-wi)->
  b1<=b2/\Aa<=b1/\XY lit AH le wi mo flat (A3 (A3 AF (some (Aa:Int)) none) none (some ((b2:Int)-Aa))) (A3 AF (some (Aa:Int)) none) (b1-Aa) (A3 steps (some (one:Int)) (some (two:Int)))
 ru:∀p,p<AF.length->(ED AF le wi mo p).length<=12/\∀x∈ED AF le wi mo p,0<=x.1/\x.1<=12
 cost:W6 D E start AF.length
 r0:R≠[]
 rl:R.length<=21
 rr:∀x∈R,start<=x/\x<=AF.length
 join:∀place:Nat,start<=place->place<=AF.length->JoinOk lit AH AF le wi mo steps B (R.map λ(n:Nat)=>(n:Int)) start place
 pairs:∀k later kb lb:Nat,k<later->later<=steps.length->B[k]? =some (kb:Int)->B[later]? =some (lb:Int)->CQ lit AH (steps.take later)-CQ lit AH (steps.take k)=D kb lb
def TX(w:CE)(h₀:BU):Prop:=
 ∀(AF:List Int)(le wi mo:Int)(start:Nat)(p:MV)(flat:Bool)(lit:Int->Int)(AH:Int->Int->Int)(Ay:Nat),Kr AF->6<=AF.length->AF.length<=10->HV le wi mo->start<AF.length->fq w h₀ p flat lit AH->Ay<=(if le<3 then 2 else 1)->
  LQ lit AH Ay AF AF start le wi mo/\∃D,fE lit AH flat AF le wi mo start (EN lit AH Ay AF AF start le wi mo) (Gg AF le wi mo (EN lit AH Ay AF AF start le wi mo) [] start)
   (H_ lit AH AF (max 2 le) (ED AF le wi mo) start) D (reachF (H_ lit AH AF (max 2 le) (ED AF le wi mo) start) D start AF.length)
theorem Ah8{ls fs K}{α:Type}(f:α->MV){v}{as:List α}{P:Hp->Prop}(p:α->Bool)(g:α->MV)(bd:α->List (AV×MV))(hb:∀a,UD A4 (f a)=some (bd a)/\(bd a).all (λx=>ls.contains x.1)=true)
 (io:FF v V (as.map f) P) (hP:P V) (hz:as.length<=100000)
 (turn:∀a h(K':Ks),a∈as->(∀m,p a=true->K' (.v (g a)) V m)->(∀m,p a=false->K' (.b false) V m)->R (.ts t) [.ci Av] V (C9 ls (IA (bd a) h) fs m) K')
 (q:K (.lst ((as.filter p).map g)) V):N2 R v Av A4 [t] ls fs V m K:=by
 refine(Aj _ P ⟨io,⟨(λAN l AE=>AE=V/\∃d r,as=d++r/\AN=r.map f/\l=(d.filter p).map g),(An (λZ Z Z Z z=>z.1▸hP) (λZ Z z=>z.1▸hP) ⟨rfl,(Aj ([]) as (AO rfl rfl rfl))⟩ (λmv AN l AE h z=>?_) (λl AE z a na=>?_))⟩⟩)
 ·(obtain zE1:=z.1;obtain Af:=z.2;refine Ao Af λd r AX=>?_;obtain hd:=AX.1;obtain hr:=AX.2.1;obtain hl:=AX.2.2;clear AX Af;try clear z;subst zE1);cases r with
  |nil=>exact cN hr
  |cons y r=>
   (obtain zI:=N9 hr;obtain zJ:=zI.1;obtain zK:=zI.2;clear zI;subst zJ;subst zK);obtain Gj:as=(d++[y])++r:=by apply AG hd;simp
   refine⟨_,(AO ((hb y).1) ((hb y).2) (turn y h _ (by refine AD hd ?_;simp) (λm e=>?_) λm e=>⟨rfl,(Aj (d++[y]) r (AO Gj rfl (by refine AD (QC ..)<|AG hl ?_;simp[e])))⟩))⟩;refine(AO ?_ rfl (Aj (d++[y]) r (AO Gj rfl (by refine AD (QC ..)<|AD hl ?_;simp[e]))));refine AD hl<|AD (Fc ..) ?_
   obtain this:=QD p d;obtain e:=congrArg Tb hd;simp at e;exact qt hz this e
 ·(obtain Cs:=z.1;obtain Ai:=z.2;refine Ao Ai λd r A5=>?_;obtain hd:=A5.1;obtain hr:=A5.2.1;obtain hl:=A5.2.2;clear A5 Ai;try clear z;subst Cs);cases r with
  |cons _ _=>exact nC hr
  |nil=>
   rw[HS]at hd;refine .E6 na ?_;refine AD hl<|AD (A0 hd) ?_;exact q
theorem u4{a b:Nat}(h:a<=b)(k:p):a<=b/\p:=⟨h,k⟩
theorem Vb:∀(l:List Int)(d:Int),0<=d->d<l.length->∃v,(l.map MV.int)[d.toNat]? =some (.int v)/\v∈l:=λl d h0 h1=>by
 have h:d.toNat<l.length:=by exact Bp 0x10114101040001920080139010219 rfl h0 h1
 exact⟨(l[d.toNat]),⟨(by refine AG (EU)<|AD (Ee h) ?_;rfl),(N_ h)⟩⟩
theorem AF2{w h₀ V}{Q:MV->Hp->Prop}{ns:List Int}(hz:ns.length<=63)(L:TX w h₀)(q:∀AE,Q (.bool true) AE):Ag w h₀ 15 673 [.lst (ns.map .int)] V Q:=by
 refine Bg ["script"] ["box","text","shape","start","price","flat","steps","borders","edges","costs","reached","spent","pairs"] ["_law_box","_law_text","_law_take","_law_price","_law_told","_law_borders","_law_part_right","_law_edges","_law_costs","_law_reached","_law_joined_right","len","range"] ["steps","price","borders","spent","costs"] [514,517] (by kernel_rfl) (by kernel_rfl) ?_
 let M:Option MV->Option MV->Option MV->Option MV->Option MV->Option MV->Option MV->Option MV->Option MV->Option MV->Option MV->Option MV->Option MV->Lc:=λa c d e f g h i j k l n o=>[("script",some (.lst (ns.map .int))),("box",a),("text",c),("shape",d),("start",e),("price",f),("flat",g),("steps",h),("borders",i),("edges",j),("costs",k),("reached",l),("spent",n),("pairs",o)]
 refine AA<|AE3 (Ah 0x1123ef8f20003ff20009 rfl hz) λb CC nb hb fr=>?_
 clear fr nb
 refine AA<|SI<|oa (M (some (.ref b)) none none none none none none none none none none none none) rfl<|iD 4000 (λAE m'=>∃(room:Nat)(AF:List Int),m'=M (some (.ref b)) (some (.bytes AF)) none none none none none none none none none none none/\Gl AE b/\6<=room/\room<=10/\AF.length=room/\Kr AF) ?_ λJ=>?_
 rotate_left
 ·refine AA<|J5 BY (by simp;exact Ah 0x1120ff4f2f4f0f20003ff20009 rfl hz)<|AA<|BW (λh2=>?_) (λh2=>?_)
  ·refine AA ?_
   (refine Ao (id hb) λbx y A6=>?_;obtain hbe:=A6.1;obtain r0:=A6.2;clear A6)
   refine CR (Bi hbe) (by decide) (by decide) rfl<|AA<|F6 (λhz=>?_) (λhz=>?_)
   ·refine AA<|Zf (room:=6) hb (by decide) (by decide) λAF DC tl tok B3=>AA (J _ _ _ (Aj 6 AF (Cc rfl B3.box (by decide) (by decide) tl tok)) rfl)
   ·refine AA<|DM hb (by decide) (by decide) λd Bf d0 d1 B2=>?_
    obtain⟨dd,rfl⟩:=LG d0
    refine AA<|Zf (room:=7+dd) B2.box (Ah 1176828523040 rfl) (Ah 0x112c20072304200839 rfl d1) λAF DC tl tok B3=>AA (J _ _ _ (Aj (7+dd) AF (Cc rfl B3.box (by exact Ah 1176828524064 (by kernel_rfl)) (by exact Ah 316630083248884549689 (by kernel_rfl) d1) tl tok)) rfl)
  ·refine AA (De (AA ?_))
   refine DM hb (by decide) (by decide) λd Bf d0 d1 B2=>?_
   obtain⟨dd,rfl⟩:=LG d0
   refine AA<|Zf (room:=7+dd) B2.box (Ah 1176828523040 rfl) (Ah 0x112c20072304200839 rfl d1) λAF DC tl tok B3=>AA (J _ _ _ (Aj (7+dd) AF (Cc rfl B3.box (by exact Ah 1176828524064 (by kernel_rfl)) (by exact Ah 316630083248884549689 (by kernel_rfl) d1) tl tok)) rfl)
 intro DC m3 hI
 (refine Ao hI λroom AF A2=>?_;obtain K6:=A2.1;obtain kC:=A2.2.1;obtain r6:=A2.2.2.1;obtain HG:=A2.2.2.2.1;obtain tl:=A2.2.2.2.2.1;obtain tok:=A2.2.2.2.2.2;clear A2;try clear hI;subst K6)
 clear hb
 obtain T:Txt AF:=⟨λx hx=>by obtain this:=tok x hx;exact rL this,by exact AM 0x101143ef8f2000100049a21009 rfl HG tl⟩
 refine AA<|CU<|AA<|DM kC (by decide) (by decide) λd LC d0 d1 B4=>?_
 (refine AI (Vb [2,3,2,1] d d0 d1) λle BM=>?_;obtain hle:=BM.1;obtain U4:=BM.2;clear BM)
 obtain kD:=B4.box
 clear B4 kC
 refine AA<|CR (x:=.int le) BY d0 (Aw 0x11280f0f0f0f0f0f0f0f0f0f0f0f0f0f0f2013420139 rfl d1) hle ?_
 clear hle d0 d1
 refine AA<|DM kD (by decide) (by decide) λd2 Ny HY HZ B5=>?_
 obtain kE:=B5.box
 clear B5 kD
 refine AA<|CU<|AA<|DM kE (by decide) (by decide) λd KD d0 d1 B6=>?_
 (refine AI (Vb [40,1+d2] d d0 d1) λwi Bx=>?_;obtain lI:=Bx.1;obtain ZN:=Bx.2;clear Bx)
 obtain Q3:=B6.box
 clear B6 kE
 refine AA<|CR (x:=.int wi) BY d0 (de d1) lI ?_
 clear lI d0 d1
 refine AA<|JI ?_
 intro f nf
 obtain CI:=CZ nf
 obtain bf:b≠f:=λz=>by(refine Ao Q3 λx y CB=>?_;obtain e:=CB.1;clear CB;try clear Q3);rw[z,CI]at e;exact nS e
 have hf:(KD.set f (.list [.int le,.int wi])) f=some (.list [.int le,.int wi]):=AS
 obtain Yj:Gl (KD.set f (.list [.int le,.int wi])) b:=by(refine Ao Q3 λx y Bj=>?_;obtain e:=Bj.1;obtain r:=Bj.2;clear Bj;try clear Q3);exact(Aj x y ⟨(by refine AG (AL bf) ?_;exact e),r⟩)
 generalize KD.set f (.list [.int le,.int wi])=S9 at hf Yj
 clear Q3 nf CI
 refine AA<|FN (Bi hf)<|AA<|DM Yj (by decide) (by decide) λd3 Wv Iu Jd B8=>?_
 obtain kP:Wv f=some (.list [.int le,.int wi]):=by(refine Ao B8 λx y B0=>?_;obtain Hu:=B0.1;clear B0;try clear B8;subst Hu);refine AG (AL bf.symm) ?_;exact hf
 obtain kG:=B8.box
 clear B8 Yj hf
 refine AA<|CU<|AA<|DM kG (by decide) (by decide) λd Wx d0 d1 B9=>?_
 obtain kQ:Wx f=some (.list [.int le,.int wi]):=by(refine Ao B9 λx y Cg=>?_;obtain SY:=Cg.1;clear Cg;try clear B9;subst SY);refine AG (AL bf.symm) ?_;exact kP
 obtain Yk:=B9.box
 clear B9 kG kP
 (refine AI (Vb [40,2+d3] d d0 d1) λmo DU=>?_;obtain Hi:=DU.1;obtain ZI:=DU.2;clear DU)
 refine AA<|CR (x:=.int mo) BY d0 (de d1) Hi ?_
 clear Hi d0 d1
 refine AA<|FK kQ (by simp) ?_
 obtain Um:Gl (Wx.set f (.list ([.int le,.int wi]++[.int mo]))) b:=by(refine Ao Yk λx y Ct=>?_;obtain e:=Ct.1;obtain r:=Ct.2;clear Ct;try clear Yk);exact(Aj x y ⟨(by refine AG (AL bf) ?_;exact e),r⟩)
 have Yr:(Wx.set f (.list ([.int le,.int wi]++[.int mo]))) f=some (.list [.int le,.int wi,.int mo]):=AS
 generalize Wx.set f (.list ([.int le,.int wi]++[.int mo]))=rh at Um Yr
 clear Yk kQ
 have H:HV le wi mo:=by
  simp only[CH,Fe,or_false]at U4 ZN ZI
  exact⟨by exact Aw 0x110311031103110301121120152201583201582201589 rfl U4,by exact Aw 0x101310131013101332011120152201583201582201589 rfl U4,by exact Bd 0x1101411004011211112301528f201589110219 rfl HY ZN,by exact Bd 0x1101411004012211122301528f201589110219 rfl Iu ZI⟩
 clear U4 ZN ZI HY HZ Iu Jd
 refine HH (M (some (.ref b)) (some (.bytes AF)) (some (.ref f)) none none none none none none none none none none) rfl<|AA<|V6 Yr (M (some (.ref b)) (some (.bytes AF)) (some (.lst [.int le,.int wi,.int mo])) none none none none none none none none none none) (by simp[IU,PV,E6,M,bf])<|SI ?_
 obtain Yi:Gl (rh.del f) b:=by(refine Ao Um λx y Dg=>?_;obtain e:=Dg.1;obtain r:=Dg.2;clear Dg;try clear Um);exact(Aj x y ⟨(by unfold Hp.del;refine AG (if_neg bf) ?_;exact e),r⟩)
 generalize rh.del f=Aq2 at Yi
 clear Um Yr bf
 refine AA<|FL (dy HG tl)<|AA<|DM Yi (AM 0x11014008023100049106209 rfl r6 tl) (AM 0x1011410f0f0f0f0f0f0f0f0f0f0f0f0f0f0f20083100049a21009 rfl HG tl) λd2 Aq3 HY HZ eH=>?_
 obtain j8:=eH.box
 clear eH Yi
 refine AA<|CU<|AA<|DM j8 (by decide) (by decide) λd Aq4 d0 d1 eI=>?_
 (refine AI (Vb [0,0,d2] d d0 d1) λst Ec=>?_;obtain Bu:=Ec.1;obtain U':=Ec.2;clear Ec)
 obtain j9:=eI.box
 clear eI j8
 refine AA<|CR (x:=.int st) BY d0 (Su d1) Bu ?_
 clear Bu d0 d1
 obtain⟨start,rfl,Bu⟩:∃n:Nat,st=n/\n<AF.length:=by
  simp only[CH,Fe,or_false]at U'
  exact⟨st.toNat,⟨(Bd 0x1010151100051000051000051010051001051000051000051010051001051000051000050198015110150201580201589110219 rfl HY U'),(Dv 0x1000116100110610001161001116100011610011160001921101502015802015890081139110219 rfl HY HZ U')⟩⟩
 clear U' HY HZ
 refine HH (M (some (.ref b)) (some (.bytes AF)) (some (.lst [.int le,.int wi,.int mo])) none none none none none none none none none none) rfl<|AA<|AA<|AE9 j9 λp flat lit AH Aq5 PP eJ=>?_
 obtain j_:=eJ.box
 clear eJ j9
 refine HH (M (some (.ref b)) (some (.bytes AF)) (some (.lst [.int le,.int wi,.int mo])) (some (.int start)) none none none none none none none none none) rfl<|AA ?_
 obtain L1:=λAy hw=>L AF le wi mo start p flat lit AH Ay tok (AM 0x1101400620100049106209 rfl r6 tl) (AM 0x10114a2000100049a21009 rfl HG tl) H Bu PP hw
 clear L
 refine RV j_ T T (AM 0x101143ef7f2000100049a21009 rfl HG tl) (DH Bu) (BX _) H PP.Ry (λAy hw=>(L1 Ay hw).1) λAy Aq6 hw eK=>?_
 obtain kA:=eK.box
 clear eK j_
 (obtain zJ4:=(L1 Ay hw);obtain FP:=zJ4.2;refine AI FP λD K=>?_;clear FP)
 clear L1 hw
 generalize EN lit AH Ay AF AF start le wi mo=steps at K|-
 refine HH (M (some (.ref b)) (some (.bytes AF)) (some (.lst [.int le,.int wi,.int mo])) (some (.int start)) (some p) (some (.bool flat)) none none none none none none none) rfl<|AA<|Ze T ER (by obtain this:=K.s2;exact Ah 0x1123ef8f200014f20009 rfl this) K.s3 (AQ 0x1101153ef8f20081100029201049a22009 rfl HG tl Bu) ?_
 generalize Gg AF le wi mo steps [] start=B at K|-
 refine HH (M (some (.ref b)) (some (.bytes AF)) (some (.lst [.int le,.int wi,.int mo])) (some (.int start)) (some p) (some (.bool flat)) (some (.lst (steps.map pv))) none none none none none none) rfl<|AA<|CU<|AA<|V8 (B.map IP.i) [] (.inl (AD (A0 (O0 ..)) rfl)) (.inl rfl)<|AA<|BW (λh=>absurd (te.mp h) (λz=>by obtain this:=K.bl;rw[z]at this;cases this)) (λZ=>?_)
 refine AA<|CU<|AA ?_
 obtain Bs:B.length<=21:=by obtain this:=K.bl;obtain this:=K.s2;exact AM 0x1101415f200014f21009121030049 rfl (by assumption) this
 refine AE8 kA T (AM 0x1011414f2000100049a21009 rfl HG tl) H PP.Ry K.s1 K.s2 (λk hk=>by(refine AI (K.bk k hk) λn FQ=>?_;obtain e:=FQ.1;obtain h:=FQ.2.2;clear FQ);exact⟨n,⟨e,(AQ 0x11011514f2000100009201049a22009 rfl HG tl h)⟩⟩) K.part λAq7 eL=>?_
 obtain kB:=eL.box
 clear eL kA
 refine AA (De (AA ?_))
 refine AE5 PP.Ry T (dz HG tl) (DH Bu) H.m2 (by obtain this:=H.l1;exact LA this) (by obtain this:=H.l3;exact Aw 0x11264f2011320119 rfl this) K.ru ?_
 generalize H_ lit AH AF (max 2 le) (ED AF le wi mo) start=E at K|-
 refine HH (M (some (.ref b)) (some (.bytes AF)) (some (.lst [.int le,.int wi,.int mo])) (some (.int start)) (some p) (some (.bool flat)) (some (.lst (steps.map pv))) (some (.lst (B.map .int))) none none none none none) rfl<|AA<|FL (dy HG tl)<|AA<|AE4 (DH Bu) (dz HG tl) K.cost λC hC=>AA<|FL (dy HG tl)<|AA<|AF0 (DH Bu) (dz HG tl) hC ?_
 generalize reachF E D start AF.length=R at K|-
 obtain eR:R.map nat=(R.map λ(n:Nat)=>(n:Int)).map .int:=by refine AD Fd ?_;rfl
 refine AD eR ?_
 clear eR
 refine HH (M (some (.ref b)) (some (.bytes AF)) (some (.lst [.int le,.int wi,.int mo])) (some (.int start)) (some p) (some (.bool flat)) (some (.lst (steps.map pv))) (some (.lst (B.map .int))) (some (.dp E)) (some (.dp C)) none none none) rfl<|AA<|CU<|AA<|AE6 kB T (AM 0x1011414f2000100049a21009 rfl HG tl) H PP.Ry K.s2 (DH Bu) K.b0 Bs (by simpa using K.r0) (by simpa using K.rl) (λx hx=>?_) K.join λAq8 eM=>?_
 ·(refine AI (DJ.mp hx) λn Gv=>?_;obtain hn:=Gv.1;obtain bz:=Gv.2;clear Gv;subst bz)
  obtain this:=K.rr n hn
  exact AQ 0x11031013208108110800817201001000079 rfl this
 obtain Ap1:=eM.box
 clear eM kB
 refine HH (M (some (.ref b)) (some (.bytes AF)) (some (.lst [.int le,.int wi,.int mo])) (some (.int start)) (some p) (some (.bool flat)) (some (.lst (steps.map pv))) (some (.lst (B.map .int))) (some (.dp E)) (some (.dp C)) (some (.lst ((R.map λ(n:Nat)=>(n:Int)).map .int))) none none) rfl<|AA (De (AA ?_))
 refine J5 BY (by simp;exact dw Bs)<|AA<|SK<|AA<|Pe (λZ=>true) (λk=>.int (CQ lit AH (steps.take k.toNat))) (.D2 _ _ _ Sy Sz Mb (by simp;exact Ah 0x1120ff4f2f4f0f2008115f20009 rfl Bs)) trivial (by simp[BP];exact du Bs) rfl (λx f K' hx kt Z=>?_) ?_
 ·obtain EC:=PL hx
  refine AA<|Ng BY (by obtain this:=K.s2;simp;exact LB this) (λi hi=>(nS hi)) (λi hi=>(by(obtain zI:=Au hi;subst zI);exact Bp 0x1013010210080130102179 rfl EC)) ?_
  obtain p1:A3 (steps.map pv) none (some x)=(steps.take x.toNat).map pv:=by simp[A3,Tf]
  refine AD p1<|AA<|NX PP.Ry rfl<|kt _ rfl
 have e0:((BP 0 ((B.map MV.int).length:Nat)).filter λZ=>true).map (λk=>MV.int (CQ lit AH (steps.take k.toNat)))=((EV B.length).map λk=>CQ lit AH (steps.take k)).map MV.int:=by
  refine AD (XK.mpr (λZ Z=>rfl))<|AD (Fc ..) ?_
  unfold BP
  refine AG Fd ?_
  simp[sR]
 refine AD e0<|HH (M (some (.ref b)) (some (.bytes AF)) (some (.lst [.int le,.int wi,.int mo])) (some (.int start)) (some p) (some (.bool flat)) (some (.lst (steps.map pv))) (some (.lst (B.map .int))) (some (.dp E)) (some (.dp C)) (some (.lst ((R.map λ(n:Nat)=>(n:Int)).map .int))) none none) rfl<|AA ?_
 intro A env
 refine AZ9 (X:=cx _ _ A env) (ls:=["later","k"]) (fs:=[]) (G:=["range"]) ⟨rfl,rfl,rfl,rfl,by decide,rfl,rfl,rfl⟩ (pK (by kernel_rfl) (by kernel_rfl)) ⟨rfl,rfl⟩ (λx hx=>nomatch hx) (R3 ?_) (λZ=>rfl)
 refine AA<|J5 BY (by simp;exact dw Bs)<|AA<|SK<|AD (Fc ..) ?_
 let pn:Nat×Nat->MV:=λx=>.tup [.int x.1,.int x.2]
 let I:List MV->MO->Hp->Prop:=λAN mo AE=>∃(j:Nat)(ps:List (Nat×Nat)),AN=(BP (j:Int) (B.length:Nat)).map MV.int/\j<=B.length/\mo=.list (ps.map pn)/\(∀x∈ps,x.1<x.2/\x.2<B.length)/\ps.length<=30*j
 refine⟨(λx hx=>(nomatch hx)),(Aj _ _ ⟨(.D2 _ _ _ Sy Sz Mb (Ah 0x1120ff4f2f4f0f2008115f20009 rfl Bs)),⟨I,(An (λZ Z Z Z Z=>trivial) (λZ Z Z=>trivial) (Aj 0 [] (An rfl (JX _) rfl (λx hx=>nomatch hx) (by simp))) ?_ ?_)⟩⟩)⟩
 ·intro C mv AN mo2 d8 f hI
  refine Ao hI λj ps hI=>?_
  obtain hr:=hI.1;obtain hj:=hI.2.1;obtain e1:=hI.2.2.1;obtain hb:=hI.2.2.2.1;obtain NM:=hI.2.2.2.2
  subst e1
  by_cases NC:j<B.length
  ·rw[PK (by exact AM 1234276571168112681 (by kernel_rfl) NC),By,Dj]at hr
   obtain⟨rfl,hr⟩:=hr
   refine PZ rfl<|xE rfl (R3 (c:=⟨w,h₀⟩) (f:=⟨14,["range"],[],[]⟩) ?_) (λZ=>rfl)
   refine AA<|SK ?_
   let I2:List MV->MO->Hp->Lc->Prop:=λAN mo AE m'=>∃(k:Nat)(qs:List (Nat×Nat))(o:Option MV),AN=(BP (k:Int) (j:Nat)).map MV.int/\k<=j/\mo=.list (qs.map pn)/\(∀x∈qs,x.1<x.2/\x.2<B.length)/\qs.length<=30*j+k/\m'=([("later",some (.int j)),("k",o)]:Lc)
   refine(Aj _ _ ⟨(.D2 _ _ _ Sy Sz Mb (AM 0x11130ff4f2f4f0f2008110002915f21009 rfl Bs NC)),⟨I2,(An (λZ Z Z Z Z Z=>trivial) (λZ Z Z Z=>trivial) (BK 0 ps _ (Cc rfl (JX _) rfl hb (NM) rfl)) ?_ ?_)⟩⟩)
   ·intro mv2 Ap8 mo3 rj m3 F1
    refine A1 F1 λk qs o F1=>?_
    obtain NJ:=F1.1;obtain hk:=F1.2.1;obtain e2:=F1.2.2.1;obtain Li:=F1.2.2.2.1;obtain U2:=F1.2.2.2.2.1;obtain e3:=F1.2.2.2.2.2
    subst e2 e3
    by_cases I6:k<j
    ·rw[PK (by exact AM 1234276571168112681 (by kernel_rfl) I6),By,Dj]at NJ
     obtain⟨rfl,NJ⟩:=NJ
     refine PZ rfl<|iV (R3 (c:=⟨w,h₀⟩) (f:=⟨14,["range"],[],[]⟩) ?_)
     refine u4 (by simp;exact CM 0x1111ff1ff518f6faf0f200020102910201ef63000930202915f23009 rfl Bs NC U2 I6)<|BK (k+1) (qs++[(k,j)]) _ (Cc NJ (Wd I6) (by simp[pn]) ?_ (by simp;exact AQ 0x11212203101ef6312003020101ef630009 rfl U2) rfl)
     intro x hx
     rcases DX.mp hx with hx|hx
     ·exact Li x hx
     ·refine AD (D7.mp hx) ?_;exact⟨I6,NC⟩
    ·rw[Vh (by exact AM 19748425138136220265 (by kernel_rfl) I6)]at NJ
     exact cN NJ
   ·intro mo3 rj m3 F1
    refine A1 F1 λk qs o F1=>?_
    obtain NJ:=F1.1;obtain hk:=F1.2.1;obtain e2:=F1.2.2.1;obtain Li:=F1.2.2.2.1;obtain U2:=F1.2.2.2.2.1;obtain e3:=F1.2.2.2.2.2
    subst e2 e3
    exact⟨rfl,Aj (j+1) qs (An hr (Wd NC) rfl Li (CM 0x111115121031ef600020101ef63000910200930102915f23009 rfl Bs NC hk U2))⟩
  ·rw[Vh (by exact AM 19748425138136220265 (by kernel_rfl) NC)]at hr
   exact cN hr
 ·intro mo2 d8 hI
  refine Ao hI λj ps hI=>?_
  obtain hr:=hI.1;obtain hj:=hI.2.1;obtain e1:=hI.2.2.1;obtain hb:=hI.2.2.2.1;obtain NM:=hI.2.2.2.2
  subst e1
  refine⟨_,(AO rfl rfl (λla Rp=>?_))⟩
  have Ll:(d8.set la (.list (ps.map pn))) la=some (.list (ps.map pn)):=AS
  generalize d8.set la (.list (ps.map pn))=rj at Ll
  clear Rp
  refine HH (M (some (.ref b)) (some (.bytes AF)) (some (.lst [.int le,.int wi,.int mo])) (some (.int start)) (some p) (some (.bool flat)) (some (.lst (steps.map pv))) (some (.lst (B.map .int))) (some (.dp E)) (some (.dp C)) (some (.lst ((R.map λ(n:Nat)=>(n:Int)).map .int))) (some (.lst (((EV B.length).map λk=>CQ lit AH (steps.take k)).map MV.int))) (some (.ref la))) rfl<|AA<|Ah8 pn (λZ=>false) pn (λx=>[("later",.int x.2),("k",.int x.1)]) (λZ=>⟨rfl,rfl⟩) (.ref la _ _ Ll) Ll (AQ 0x111ef1ef418f6faf0f2000101ef6000920100915f22009 rfl Bs hj NM) (λx f K' hx kt kf=>?_) ?_
  ·obtain⟨k,later⟩:=x
   obtain⟨D5,EC⟩:=hb _ hx
   simp only at D5 EC
   obtain bl:=K.bl
   (refine AI (K.bk k (CM 0x10111510000121032049203029300029 rfl D5 EC bl)) λkb WI=>?_;obtain Yx:=WI.1;obtain kb1:=WI.2.1;obtain kb2:=WI.2.2;clear WI)
   (refine AI (K.bk later (AQ 0x1011410000121032049200029 rfl EC bl)) λlb HO=>?_;obtain Lm:=HO.1;obtain lb1:=HO.2.1;obtain lb2:=HO.2.2;clear HO)
   obtain hkl:=K.bm k later kb lb (DH D5) Yx Lm
   obtain hpr:=K.pairs k later kb lb D5 (AQ 0x1011410000121032049200029 rfl EC bl) Yx Lm
   obtain M9:=hC kb lb kb1 hkl lb2 trivial
   obtain gs:∀i:Nat,i<B.length->(((EV B.length).map λk=>CQ lit AH (steps.take k)).map MV.int)[((i:Nat):Int).toNat]? =some (.int (CQ lit AH (steps.take i))):=λi hi=>by
    refine AD (HR ..)<|AG (EU)<|AD (EU)<|AD (List.getElem?_range hi) ?_;rfl
   refine AA<|CR (x:=.int (CQ lit AH (steps.take later))) BY ER (rT Bs EC) (gs later EC)<|AA<|CR (x:=.int (CQ lit AH (steps.take k))) BY ER (rU Bs D5 EC) (gs k (AQ 0x111310002102029200029 rfl D5 EC))<|AA<|CR (x:=.int kb) BY ER (rU Bs D5 EC) (by refine AD (HR ..)<|AG (EU)<|AD Yx ?_;rfl) ?_
   refine AA<|CR (x:=.int lb) BY ER (rT Bs EC) (by refine AD (HR ..)<|AG (EU)<|AD Lm ?_;rfl) ?_
   refine AA<|Nf (.inl rfl) M9<|AA<|NY (λh=>absurd hpr h) (λZ=>kf _ rfl)
  refine AA<|CU<|AA<|V8 [] [] (.inl (by refine AD (show ps.filter (λZ=>false)=[]from fH.mpr (λZ Z h=>by exact fT h)) ?_;rfl)) (.inl rfl) ?_
  exact q _
theorem lY:∀{xs:List WData},gB R xs .int=true->∃ns:List Int,xs=ns.map .int
 |[],_=>⟨[],rfl⟩
 |x::xs,h=>by
  have h':(gA R x .int&&gB R xs .int)=true:=h;rw[KH]at h';obtain⟨ns,rfl⟩:=lY h'.2;cases x with
  |int i=>exact⟨i::ns,rfl⟩
  |_=>exact absurd h'.1 Ed
theorem u9(h:ux R args [.list .int]=true):∃ns:List Int,args=[.list (ns.map .int)]:=by
 cases args with
 |nil=>exact absurd h Ed
 |cons d r=>
  have h':(gA R d (.list .int)&&ux R r [])=true:=h;rw[KH]at h';cases r with
  |cons e r=>exact absurd h'.2 Ed
  |nil=>
   cases d with
   |list xs=>
    have h2:(gB R xs .int||false)=true:=h'.1;rw[eS]at h2;exact(lY h2).elim λns e=>⟨ns,congrArg (λx=>[WData.list x]) e⟩
   |_=>exact absurd h'.1 Ed
theorem AF5{ns:List Int}(h:gD R KU.pre {args:=[.list (ns.map .int)]}=true):ns.length<=63:=by
 have h':gD R (.and (.not (.lit (.bool (decide ((63:Int)<(ns.map uw).length))))) (.lit (.bool true))) {args:=[.list (ns.map .int)]}=true:=h;by_cases z:(63:Int)<(ns.map uw).length
 ·rw[decide_eq_true z]at h';exact absurd h' Ed
 ·rw[Fc]at z;exact FZ.mp (P_.mp z)
theorem qK:∀{ns:List Int}{vs:List Ap},WellAll P h vs (ns.map .int)->AY w D h (ns.map .int) vs
 |[],[],_=>trivial
 |n::ns,v::vs,x=>by
  have y:=wellAll_head x;simp only[By,BD,AZ];refine⟨?_,qK y.2⟩;cases y.1;exact⟨_,rfl⟩
 |[],_::_,x=>by cases x
 |_::_,[],x=>by cases x
set_option tactic.hygienic true in
theorem xH(L:∀w h₀,TX w h₀){NP:List (AV×Expr)}(Yn:OP H.QQ "law"=some (d,NP)):WalkO H.QQ H.LL (XL H.QQ []) H.HK.says KU.row.toRowW d NP λf vs=>fx f vs:=by
 intro w PY AJ mg mb Gr Y a o pm cd doc dV kV ho hd hcd hdf Y0 AB3 args vals as AB9 Ap2 Ap4 AC2 Ap6;obtain⟨p1,p2⟩:=pre_splitW AB9;obtain⟨ns,rfl⟩:=u9 p1;obtain hz:=AF5 p2;(refine Ao (wellAll_cons_inv AC2) λv FE AR=>?_;refine DF AR λC4 w1 w2=>?_;clear AR;subst C4);cases w2;cases w1 with
 |list g wi=>
  rename_i l xs;obtain KI:(KK w.params).In AJ.heap:=kIn_of Y;obtain B:BS w AJ.heap:=⟨KI,Gr.T.nolimit,⟨mg,Gr.T.g⟩,⟨mb,⟨Gr.T.b,Gr.T.builtins⟩⟩⟩;obtain hrs:RS w AJ.heap (λZ=>False) AJ.heap (λZ=>none):=⟨λZ z=>z.elim,λa o e=>⟨e,id⟩,λZ Z e=>(by cases e),λZ Z Z Z Z e=>(by cases e)⟩;obtain hA:JQ callerA 15:=(AO rfl (by decide) (by decide));have hn:d.name="law":=by
   obtain e:(OP H.QQ "law").map (λx=>x.1.name)=some "law":=by kernel_rfl
   rw[Yn]at e;exact Au e
  have ha:a=673:=by
   obtain e:Jt (KK w.params) Ea "law"=some (some (.ref 673)):=by rfl
   obtain this:=mg_of KI Gr.T.g e;rw[hn,this]at Y0;injection Y0 with z;injection z with z;exact z.symm
  (try clear Y0;try clear ho;subst ha);obtain sp:=AF2 (w:=w) (h₀:=AJ.heap) (V:=λZ=>none) (Q:=λmv Z=>mv=.bool true) hz (L w AJ.heap) (λZ=>rfl) callerA AJ (λZ=>False) [.ref l] hA B hrs (by simp only[BD,AZ];exact⟨(BK l xs.toArray 0 (BR rfl id g (qK wi))),trivial⟩);refine qN (LV sp λr s' p=>?_);rcases r with e|(v|_|_|_)<;>first|exact p.elim|skip
  (refine A1 p λmv AE D' AX=>?_;refine Cu AX λh1 h2 h3 h4 Cs=>?_;clear AX;try clear p;subst Cs);simp only[AZ]at h4;subst h4;refine(BR (.inl (BK _ (.bool true) ([]) (An rfl (λcls=>rfl) (.bool true) ?_ (λZ=>⟨.nil,λa ha=>nomatch ha⟩)))) ?_ h3.os ?_)
  ·show(gA [] (.bool true) .bool&&gD [] (.eq .res (.lit (.bool true))) {args:=[.list (ns.map .int)],res:=some (.bool true),after:=[.list (ns.map .int)]})=true;kernel_rfl
  ·exact .of_keep λb o e=>h2.keep b o e (λf=>by rcases f with⟨_,f⟩|⟨_,_,_,_,f⟩<;>cases f) (λz=>z)
  ·exact AllBare.of_eq (h3.gens.trans AB3)
theorem holds(L:∀w h₀,TX w h₀):KU.Holds:=by
 obtain hs:(OP H.QQ "law").isSome=true:=by kernel_rfl
 obtain⟨⟨d,NP⟩,e⟩:=Ms.mp hs;refine H.hd e ?_ ?_ (xH L e)
 ·obtain h:(OP H.QQ "law").map (λx=>(x.1.params,x.1.body,x.1.scope))=Mt.theDef "law":=by kernel_rfl
  rw[e]at h;exact h.symm
 ·obtain h:(OP H.QQ "law").map (λx=>kwWritten? x.1.params.kwonlyargs x.1.params.kw_defaults)=(OP H.QQ "law").map (λx=>some x.2):=by kernel_rfl
  rw[e]at h;exact Au h
noncomputable abbrev oc(o:List Int)(k:Nat):Int:=o.getD k 0
def Bn(o:List Int)(p q c:Nat):Prop:=∀i,i<c->oc o (p+i)=oc o (q+i)
theorem Bn.symm(h:Bn o p q c):Bn o q p c:=λi hi=>(h i hi).symm
theorem Bn.trans(h:Bn o p q c)(k:Bn o q r c):Bn o p r c:=λi hi=>(h i hi).trans (k i hi)
theorem Bn.mono(h:Bn o p q c)(l:c'<=c):Bn o p q c':=λi hi=>h i (Pz l hi)
theorem Bn.refl:Bn o p p c:=λZ Z=>rfl
theorem Bn.zero:Bn o p q 0:=λi hi=>by exact Dv 0x1013101311015020029 rfl hi
theorem RW:∀(f k:Nat),Bn o p q k->
 Bn o p q (BF o p q f k)/\BF o p q f k<=f+k/\(BF o p q f k<f+k->oc o (p+BF o p q f k)≠oc o (q+BF o p q f k))
 |0,k,h=>by simp only[L2];exact(AO h (Ah 73014587392 rfl) (Dv 0x11110156000230029 rfl))
 |f+1,k,h=>by
  simp only[L2];by_cases e:o.getD (p+k) 0=o.getD (q+k) 0
  ·refine AD (if_pos e) ?_;have:=RW (o:=o) (p:=p) (q:=q) f (k+1) (λi hi=>by
    rcases LK.mp hi with z|z
    ·exact h i z
    ·(try clear hi;subst z);exact e)
   exact(AO this.1 (Jo 0x101310131013201210330001101561220310300291220310300079 rfl this.2) (λz=>this.2.2 (AQ 0x11212203103002201210330029 rfl z)))
  ·refine AD (if_neg e)<|(AO h (AM 72391850421596160 rfl) (λZ=>e))
noncomputable abbrev cL(o:List Int)(lim p q:Nat):Nat:=BF o p q lim 0
theorem EH:Bn o p q (cL o lim p q):=(RW lim 0 Bn.zero).1
theorem D9:cL o lim p q<=lim:=(RW (o:=o) (p:=p) (q:=q) lim 0 Bn.zero).2.1
theorem Qb(h:cL o lim p q<lim):oc o (p+cL o lim p q)≠oc o (q+cL o lim p q):=(RW lim 0 Bn.zero).2.2 h
theorem OL(h:Bn o p q c)(hc:c<=lim):c<=cL o lim p q:=by
 by_cases z:c<=cL o lim p q
 ·exact z
 ·obtain z':cL o lim p q<c:=by exact AM 77141736341700713 rfl z
  obtain z2:cL o lim p q<lim:=by exact AQ 0x1113100020020069102009 rfl hc z
  exact absurd (h _ z') (Qb z2)
theorem UK:c<=cL o lim p q↔c<=lim/\Bn o p q c:=⟨λh=>⟨Ek h D9,EH.mono h⟩,λh=>OL h.2 h.1⟩
theorem Xp(h1:Bn o p q c)(h2:c<=lim)(h3:c<lim->oc o (p+c)≠oc o (q+c)):cL o lim p q=c:=by
 obtain a:=OL h1 h2;by_cases z:cL o lim p q=c
 ·exact z
 ·obtain this:=D9 (o:=o) (lim:=lim) (p:=p) (q:=q);obtain z2:c<cL o lim p q:=by exact AM 0x1121103100020010469100009 rfl a z
  exact absurd (EH c z2) (h3 (Pz this z2))
theorem vP(h:Bn o p q k)(hk:k<=lim):BF o p q (lim-k) k=cL o lim p q:=by
 obtain s:=RW (o:=o) (p:=p) (q:=q) (lim-k) k h;exact(Xp s.1 (Jo 0x1010151010151001016100101610100510100510010061001006100001101562020104300292020104300079102009 rfl hk s.2) λz=>s.2.2 (AQ 0x1113101320201043002100029 rfl z)).symm
theorem gh(h:Bn o q q' lim):cL o lim p q=cL o lim p q':=by
 refine Xp (EH.trans (h.symm.mono D9)) D9 λz=>?_;obtain this:=Qb z;refine AD (h _ z)<|this
def Gx(o:List Int)(p lim:Nat)(wi:Int)(lo:Nat)(x:Int×Int):Prop:=
 ∃q:Nat,q<p/\(p:Int)-q<=wi/\x=((cL o lim p q:Int),(p:Int)-q)/\lo<cL o lim p q/\∀q',q<q'->q'<p->cL o lim p q'<cL o lim p q
def Gw(l:List (Int×Int)):Prop:=l.Pairwise λa b=>a.2<b.2
def Recs(o:List Int)(p lim:Nat)(wi:Int)(lo:Nat)(l:List (Int×Int)):Prop:=Gw l/\∀x,x∈l↔Gx o p lim wi lo x
theorem Xh:∀{l l':List (Int×Int)},Gw l->Gw l'->(∀x,x∈l↔x∈l')->l=l'
 |[],[],_,_,_=>rfl
 |[],b::_,_,_,h=>by have:=(h b).mpr (.head _);cases this
 |a::_,[],_,_,h=>by have:=(h a).mp (.head _);cases this
 |a::l,b::l',h1,h2,h=>by
  have a1:=OC.mp h1;have a2:=OC.mp h2;have e:a=b:=by
   obtain x1:=(h a).mp (.head _);obtain x2:=(h b).mpr (.head _);rcases CH.mp x1 with e|m1
   ·exact e
   ·rcases CH.mp x2 with e|m2
    ·exact e.symm
    ·obtain y1:=a2.1 a m1;obtain y2:=a1.1 b m2;exact C5 (Bd 0x112a110139011139 rfl y1 y2)
  (try clear h2;subst e);congr 1;refine Xh a1.2 a2.2 λx=>?_;obtain n1:x∈l->x≠a:=λm z=>by have:=a1.1 x m;rw[z]at this;exact Aw 4731240761 rfl this
  obtain n2:x∈l'->x≠a:=λm z=>by have:=a2.1 x m;rw[z]at this;exact Aw 4731240761 rfl this
  constructor
  ·intro m;rcases CH.mp ((h x).mp (.tail _ m))with z|z
   ·exact absurd z (n1 m)
   ·exact z
  ·intro m;rcases CH.mp ((h x).mpr (.tail _ m))with z|z
   ·exact absurd z (n2 m)
   ·exact z
theorem Recs.unique{lo}(h:Recs o p lim wi lo l)(h':Recs o p lim wi lo l'):l=l':=Xh h.1 h'.1 λx=>(h.2 x).trans (h'.2 x).symm
theorem ly(l)(a):Gn (l++[a])=Gn l*256+a:=by unfold Gn;apply AG TZ;rfl
theorem lq:∀(n:Nat)(l l':List Int),l.length=n->l'.length=n->(∀x∈l,0<=x/\x<256)->(∀x∈l',0<=x/\x<256)->Gn l=Gn l'->l=l'
 |0,l,l',h,h',_,_,_=>by rw[tX.mp h,tX.mp h']
 |n+1,l,l',h,h',o,o',e=>by
  rcases QB l with rfl|⟨a,x,rfl⟩
  ·cases h
  ·rcases QB l' with rfl|⟨a',x',rfl⟩
   ·cases h'
   ·rw[Ml]at*;rw[Ml]at*;rw[ly,ly]at e;obtain hx:=o x (by simp);obtain II:=o' x' (by simp);obtain e1:x=x':=by omega
    obtain e2:Gn a=Gn a':=by exact IL 0x10f0f0110510f0f1001511015312159311110f0f73210110f0f7359 rfl e e1
    rw[e1,lq n a a' (by simpa using h) (by simpa using h') (λy hy=>o y (by simp[hy])) (λy hy=>o' y (by simp[hy])) e2]
theorem R_{o:List Int}{sz p:Nat}(h:p+sz<=o.length):(A3 o (some (p:Int)) (some ((p:Int)+sz))).length=sz:=by
 simp only[A3,uT,Mn,Mo];exact AQ 0x11000107101000008110000171010010081100016101000008100001610101100811000107101000008110001071010000081010106101000008100010610101000811100017101000008110000171011006110001610100000810000161001006111000071010000081100000710100061100006101000008100000610000061000892010800839a44201000309 rfl h
theorem R9{o:List Int}{sz p i:Nat}(h:p+sz<=o.length)(hi:i<sz):(A3 o (some (p:Int)) (some ((p:Int)+sz)))[i]? =some (oc o (p+i)):=by
 simp only[A3,uT];refine AG (fK)<|AG (XM) ?_
 obtain e1:((p:Int)+sz).toNat=p+sz:=by exact Nq
 obtain e2:(p:Int).toNat=p:=by exact cy
 refine AD e1<|AD e2<|AD (if_pos (AQ 0x11220003100032201029 rfl hi)) ?_
 obtain this:p+i<o.length:=by exact CM 0x111320100032301029203000309 rfl h hi
 simp[oc,Ej,Ee this]
theorem Vq{o o':List Int}{sz p q:Nat}(hp:p+sz<=o.length)(hq:q+sz<=o'.length):A3 o (some (p:Int)) (some ((p:Int)+sz))=A3 o' (some (q:Int)) (some ((q:Int)+sz))↔∀i,i<sz->oc o (p+i)=oc o' (q+i):=by
 constructor
 ·intro h i hi;obtain a:=R9 hp hi;rw[h,R9 hq hi]at a;exact(Au a).symm
 ·intro h;refine List.ext_getElem? λi=>?_;by_cases hi:i<sz
  ·rw[R9 hp hi,R9 hq hi,h i hi]
  ·rw[fL (by rw[R_ hp];exact AM 77141735804830313 rfl hi),fL (by rw[R_ hq];exact AM 77141735804830313 rfl hi)]
theorem lZ{o:List Int}(T:Txt o){sz p q:Nat}(hp:p+sz<=o.length)(hq:q+sz<=o.length):BL o sz p=BL o sz q↔Bn o p q sz:=by
 unfold BL;refine AD (if_neg (AQ 0x112208108300836002010309 rfl hp))<|AD (if_neg (AQ 0x112208108300836002010309 rfl hq)) ?_
 obtain mem:∀(a b:Option Int),∀x∈A3 o a b,0<=x/\x<256:=λa b x hx=>T.oct x (Tg (XQ hx));constructor
 ·intro h;obtain h:=Au h;exact(Vq hp hq).mp (lq sz _ _ (R_ hp) (R_ hq) (mem _ _) (mem _ _) h)
 ·intro h;exact AD ((Vq hp hq).mpr h) rfl
theorem ZQ{o:List Int}{sz p:Nat}{k:Int}(h:BL o sz p=some k):p+sz<=o.length:=by
 unfold BL at h;split at h
 ·exact nS h
 ·exact AQ 0x112201000301080083208369 rfl (by assumption)
theorem ZP{o:List Int}{sz p:Nat}(h:BL o sz p=none):o.length<p+sz:=by
 unfold BL at h;split at h
 ·exact AQ 0x11220103002208108300839 rfl (by assumption)
 ·exact sN h
theorem AD7{o:List Int}(T:Txt o){sz p q lim:Nat}{k:Int}(hp:BL o sz p=some k)(hq:BL o sz q=some k)(hl:sz<=lim):sz<=cL o lim p q:=
 OL ((lZ T (ZQ hp) (ZQ hq)).mp (hp.trans hq.symm)) hl
theorem Qa{o:List Int}(T:Txt o){sz p q lim:Nat}{k:Int}(hp:BL o sz p=some k)(hqp:q<p)(h:sz<=cL o lim p q):BL o sz q=some k:=by
 obtain hs:=ZQ hp;rw[<-hp];exact(lZ T (CM 0x111320100030201030309300029 rfl hqp hs) hs).mpr (EH.mono h).symm
theorem OQ{α:Type}[DecidableEq α]{k k':α}{v:Int}:∀{l:List (α×Int)},Ak (dput l k v) k'=if k=k' then some v else Ak l k'
 |[]=>by simp[OT,Ha]
 |(a,b)::l=>by
  simp only[OT];by_cases h:a=k
  ·subst h;by_cases h2:a=k'
   ·simp[Ha,h2]
   ·simp[Ha,h2]
  ·simp only[h,if_false,Ha];by_cases h2:a=k'
   ·subst h2;obtain this:¬k=a:=λz=>h z.symm;simp[this]
   ·simp only[h2,if_false];exact OQ
def LM(o:List Int)(sz:Nat)(key:Int)(k:Nat)(v:Int):Prop:=
 (v=-1/\∀q:Nat,q<k->BL o sz q≠some key)\/∃q:Nat,v=q/\q<k/\BL o sz q=some key/\∀q':Nat,q<q'->q'<k->BL o sz q'≠some key
structure Xb(o:List Int)(sz k:Nat)(L:List (Int×Int))(B:List Int):Prop where
 last:∀key,LM o sz key k ((Ak L key).getD (-1))
 prev:∀j:Nat,j<k->∀key,BL o sz j=some key->LM o sz key j (B.getD j (-1))
 len:B.length=o.length
theorem je{l:List Int}{i j:Nat}{v d:Int}(h:i<l.length):(l.set i v).getD j d=if i=j then v else l.getD j d:=by
 (rw[Ej];refine AD (fN) ?_;rw[Ej]);by_cases e:i=j
 ·refine AD (if_pos e)<|AD (if_pos e)<|AD (if_pos (e▸h)) ?_;rfl
 ·rw[if_neg e,if_neg e]
theorem LM.next(h:LM o sz key k v)(n:BL o sz k≠some key):LM o sz key (k+1) v:=by
 rcases h with⟨e,h⟩|⟨q,e,hq,hk,h⟩
 ·refine .inl ⟨e,λq hq=>?_⟩;rcases LK.mp hq with z|z
  ·exact h q z
  ·(try clear hq;subst z);exact n
 ·refine .inr ⟨q,(BR e (Ib hq) hk (λq' h1 h2=>?_))⟩;rcases LK.mp h2 with z|z
  ·exact h q' h1 z
  ·(try clear hq;subst z);exact n
theorem Vm{o:List Int}{sz:Nat}:∀k,k<=o.length->Xb o sz k (A_ o sz k).1 (A_ o sz k).2
 |0,_=>⟨λkey=>.inl ⟨by simp[MH,Ha],λq hq=>by exact C5 (Ah 73719218217 rfl hq)⟩,λj hj=>by exact C5 (Ah 73719218217 rfl hj),by simp[MH]⟩
 |k+1,hk=>by
  obtain ih:=Vm (o:=o) (sz:=sz) k (Sm hk)
  simp only[MH]
  cases EZ:BL o sz k with
  |none=>
   simp only[Jy,Kt]
   refine⟨λkey=>(ih.last key).next (by refine AD EZ ?_;simp),λj hj key Er=>?_,ih.len⟩
   rcases LK.mp hj with z|z
   ·exact ih.prev j z key Er
   ·(try clear hj;subst z);rw[EZ]at Er;exact nS Er
  |some O6=>
   simp only[Jy,Kt]
   refine⟨λkey=>?_,λj hj key Er=>?_,by apply AG fQ;exact ih.len⟩
   ·refine AD OQ ?_
    by_cases e:O6=key
    ·refine AD (if_pos e)<|.inr ⟨k,(BR rfl Ie (e▸EZ) (λq' h1 h2=>by exact C5 (AM 0x112a121030029001029 rfl h1 h2)))⟩
    ·refine AD (if_neg e)<|(ih.last key).next (by refine AD EZ ?_;intro z;exact e (Au z))
   ·obtain e1:(k:Int).toNat=k:=by exact cy
    refine AD e1<|AD (je (by rw[ih.len];exact Np hk)) ?_
    rcases LK.mp hj with z|z
    ·refine AD (if_neg (AM 77141736979173417 rfl z)) ?_;exact ih.prev j z key Er
    ·(try clear hj;subst z);refine AD (if_pos rfl) ?_;rw[EZ]at Er;(obtain zI:=Au Er;subst zI);exact ih.last O6
theorem Xy{o:List Int}{sz k j:Nat}{wi key:Int}(h:∀q,q<j->BL o sz q=some key->¬(k:Int)-q<=wi):
 (∀c,c∈([]:List Int)↔∃q:Nat,c=q/\q<j/\BL o sz q=some key/\(k:Int)-q<=wi)/\([]:List Int).Pairwise λa b=>b<a:=
 ⟨λZ=>⟨λz=>(nomatch z),λz=>z.elim λq z=>absurd z.2.2.2 (h q z.2.1 z.2.2.1)⟩,.nil⟩
theorem LM.lt{o:List Int}{sz j:Nat}{key r:Int}(h:LM o sz key j r):r<j:=h.elim (λz=>z.1▸Mj (by decide) (P9 j)) λz=>z.elim λq z=>z.1▸HQ.mpr z.2.1
theorem vq{o:List Int}{sz k:Nat}(R:Xb o sz k L B){wi:Int}{key:Int}(f:Nat):∀(j:Nat)(r:Int),j<=k->r<f->LM o sz key j r->
 (∀c,c∈cands B wi k f r↔∃q:Nat,c=q/\q<j/\BL o sz q=some key/\(k:Int)-q<=wi)/\(cands B wi k f r).Pairwise λa b=>b<a:=by
 induction f with
 |zero=>exact λj r Z hr h=>h.elim (λz=>Xy λq hq hk=>absurd hk (z.2 q hq)) λz=>z.elim λq z=>absurd (z.1▸hr) (P_.mpr (P9 q))
 |succ f ih=>
  intro j r hj hr h;refine h.elim (λz=>?_) λz=>z.elim λq0 z=>?_
  ·rw[show cands B wi k (f+1) r=[]from if_neg λw=>w.1 z.1];exact Xy λq hq hk=>absurd hk (z.2 q hq)
  ·rw[z.1]at hr|-;by_cases w:(k:Int)-q0<=wi
   ·have nw:=R.prev q0 (G1 z.2.1 hj) key z.2.2.1
    have I:=ih q0 (B.getD q0 (-1)) (D3 (G1 z.2.1 hj)) (Mj nw.lt (Int.le_of_lt_add_one hr)) nw;rw[show cands B wi k (f+1) q0=(q0:Int)::cands B wi k f (B.getD q0 (-1))from if_pos ⟨λz=>(nomatch z),w⟩];refine⟨λc=>CH.trans ⟨λh=>h.elim (λe=>⟨q0,e,z.2.1,z.2.2.1,w⟩) λh=>((I.1 c).mp h).elim λq y=>⟨q,y.1,Gf y.2.1 z.2.1,y.2.2⟩,λh=>h.elim λq y=>?_⟩,.cons (λc hc=>((I.1 c).mp hc).elim λq y=>y.1▸HQ.mpr y.2.1) I.2⟩;exact(OD q q0).elim (λl=>.inr ((I.1 c).mpr ⟨q,y.1,l,y.2.2⟩)) λl=>l.elim (λe=>.inl (e▸y.1)) λl=>absurd y.2.2.1 (z.2.2.2 q l y.2.1)
   ·rw[show cands B wi k (f+1) q0=[]from if_neg λy=>w y.2];exact Xy λq hq hk hw=>w (KL (XD (FZ.mpr (Ft.mp λl=>z.2.2.2 q l hq hk)) _) hw)
def N8(o:List Int)(p lim lo:Nat)(wi:Int)(M:Nat->Prop)(z:Int×Int):Prop:=∃q,M q/\(p:Int)-q<=wi/\z=((cL o lim p q:Int),(p:Int)-q)/\lo<cL o lim p q/\∀q',M q'->q<q'->cL o lim p q'<cL o lim p q
def QN(o:List Int)(p lim lo:Nat)(wi:Int)(M:Nat->Prop)(l:List (Int×Int)):Prop:=Gw l/\∀z,z∈l↔N8 o p lim lo wi M z
section
variable{o:List Int}{p lim lo x:Nat}{wi:Int}{M sub other:Nat->Prop}
theorem U8(h:∀q,M q->(p:Int)-q<=wi->lo<cL o lim p q->False):QN o p lim lo wi M []:=⟨.nil,λZ=>⟨λh=>(nomatch h),λk=>k.elim λq k=>(h q k.1 k.2.1 k.2.2.2.1).elim⟩⟩
theorem lV{z:Int×Int}(hm:∀y,M y↔y=x\/sub y\/other y)(ho:∀y,other y->y<x/\cL o lim p y<=cL o lim p x)(k:N8 o p lim (max lo (cL o lim p x)) wi sub z):N8 o p lim lo wi M z:=
 k.elim λq k=>have lt:=uJ.mp k.2.2.2.1;⟨q,(hm q).mpr (.inr (.inl k.1)),k.2.1,k.2.2.1,lt.1,λq' m l=>((hm q').mp m).elim (λe=>e▸lt.2) λm=>m.elim (λm=>k.2.2.2.2 q' m l) λm=>Tu (ho q' m).2 lt.2⟩
theorem AC5(hw:(p:Int)-x<=wi)(hm:∀y,M y↔y=x\/sub y\/other y)(old:∀y,M y->y<=x)(h:lo<cL o lim p x):N8 o p lim lo wi M ((cL o lim p x:Int),(p:Int)-x):=
 ⟨x,(hm x).mpr (.inl rfl),hw,rfl,h,λq' m l=>absurd (old q' m) (uM.mpr l)⟩
theorem lU{z:Int×Int}(hm:∀y,M y↔y=x\/sub y\/other y)(hs:∀y,sub y->y<x)(ho:∀y,other y->y<x/\cL o lim p y<=cL o lim p x)(k:N8 o p lim lo wi M z):(z=((cL o lim p x:Int),(p:Int)-x)/\lo<cL o lim p x)\/N8 o p lim (max lo (cL o lim p x)) wi sub z:=
 k.elim λq k=>((hm q).mp k.1).elim (λe=>.inl (e▸⟨k.2.2.1,k.2.2.2.1⟩)) λm=>.inr<|m.elim
  (λm=>⟨q,m,k.2.1,k.2.2.1,uJ.mpr ⟨k.2.2.2.1,k.2.2.2.2 x ((hm x).mpr (.inl rfl)) (hs q m)⟩,λq' m' l=>k.2.2.2.2 q' ((hm q').mpr (.inr (.inl m'))) l⟩)
  λm=>absurd (k.2.2.2.2 x ((hm x).mpr (.inl rfl)) (ho q m).1) (Ft.mpr (ho q m).2)
theorem U9{R:List (Int×Int)}(hw:(p:Int)-x<=wi)(hs:∀y,sub y->y<x)(ho:∀y,other y->y<x/\cL o lim p y<=cL o lim p x)(hm:∀y,M y↔y=x\/sub y\/other y)
 (h:QN o p lim (max lo (cL o lim p x)) wi sub R):QN o p lim lo wi M ((if lo<cL o lim p x then[((cL o lim p x:Int),(p:Int)-x)]else[])++R):=by
 have old:∀y,M y->y<=x:=λy m=>((hm y).mp m).elim (λe=>fY e) λm=>D3 (m.elim (hs y) λm=>(ho y m).1);by_cases hl:lo<cL o lim p x
 ·rw[if_pos hl];refine⟨.cons (λb hb=>((h.2 b).mp hb).elim λq k=>?_) h.1,λz=>CH.trans ⟨λk=>k.elim (λe=>e▸AC5 hw hm old hl) λk=>lV hm ho ((h.2 z).mp k),λk=>(lU hm hs ho k).imp And.left (h.2 z).mpr⟩⟩;rw[k.2.2.1];exact tA (HQ.mpr (hs q k.1)) _
 ·rw[if_neg hl];exact⟨h.1,λz=>⟨λk=>lV hm ho ((h.2 z).mp k),λk=>(lU hm hs ho k).elim (λe=>absurd e.2 hl) (h.2 z).mpr⟩⟩
end
theorem v7{o:List Int}{p lim:Nat}(cs:List Int){lo:Nat}(h:lim<=lo):EW o p lim cs lo=[]:=by
 cases cs with
 |nil=>rfl
 |cons c cs=>exact if_pos h
theorem v8{o:List Int}{p lim n lo:Nat}{cs:List Int}:EW o p lim ((n:Int)::cs) lo=(if lo<cL o lim p n then[((cL o lim p n:Int),(p:Int)-n)]else[])++EW o p lim cs (max lo (cL o lim p n)):=by
 by_cases hc:lo<cL o lim p n
 ·rw[if_pos hc,uI (D3 hc)];exact(if_neg (uM.mpr (G1 hc D9))).trans ((if_pos (EH lo hc).symm).trans (if_pos hc))
 ·rw[if_neg hc,uH (Ft.mp hc)];by_cases hl:lim<=lo
  ·exact(if_pos hl).trans (v7 cs hl).symm
  ·by_cases he:o.getD (n+lo) 0=o.getD (p+lo) 0
   ·exact(if_neg hl).trans ((if_pos he).trans (if_neg hc))
   ·exact(if_neg hl).trans (if_neg he)
theorem hH{o:List Int}{p lim:Nat}(cs:List Int):∀(lo:Nat),(cs.Pairwise λa b=>b<a)->(∀c∈cs,0<=c)->QN o p lim lo p (λq=>(q:Int)∈cs) (EW o p lim cs lo):=by
 induction cs with
 |nil=>exact λlo Z Z=>U8 λZ h Z Z=>(nomatch h)
 |cons c cs ih=>
  intro lo hp h0;have Ou:=OC.mp hp;obtain⟨n,e⟩:=LG (h0 c (.head _));rw[e]at Ou|-;rw[v8];exact U9 (other:=λZ=>False) (s_ _ (P9 n)) (λy h=>HQ.mp (Ou.1 y h)) (λZ h=>h.elim) (λy=>CH.trans (or_congr s8 (or_false _).symm.to_iff)) (ih _ Ou.2 λx hx=>h0 x (.tail _ hx))
theorem g_{o:List Int}{p lim:Nat}(cs:List Int)(lo:Nat)(hp:cs.Pairwise λa b=>b<a)(h0:∀c∈cs,0<=c):
 Gw (EW o p lim cs lo)/\∀x,x∈EW o p lim cs lo↔∃q:Nat,(q:Int)∈cs/\x=((cL o lim p q:Int),(p:Int)-q)/\lo<cL o lim p q/\∀q':Nat,(q':Int)∈cs->q<q'->cL o lim p q'<cL o lim p q:=
 ⟨(hH cs lo hp h0).1,λx=>((hH cs lo hp h0).2 x).trans ⟨λz=>z.elim λq z=>⟨q,z.1,z.2.2⟩,λz=>z.elim λq z=>⟨q,z.1,s_ _ (P9 q),z.2⟩⟩⟩
theorem AJ1{o:List Int}(T:Txt o){sz k lim:Nat}{wi:Int}{key:Int}(EZ:BL o sz k=some key)(h1:1<=sz){x:Int×Int}(S:Nat->Prop)(hS:∀q,S q↔q<k/\BL o sz q=some key/\(k:Int)-q<=wi):
 (∃q:Nat,S q/\x=((cL o lim k q:Int),(k:Int)-q)/\sz-1<cL o lim k q/\∀q':Nat,S q'->q<q'->cL o lim k q'<cL o lim k q)↔Gx o k lim wi (sz-1) x:=by
 constructor
 ·intro ct;(refine AI ct λq B0=>?_;obtain hq:=B0.1;obtain e:=B0.2.1;obtain h2:=B0.2.2.1;obtain h3:=B0.2.2.2);obtain hq:=(hS q).mp hq;refine⟨q,(An hq.1 hq.2.2 e h2 (λq' a b=>?_))⟩;by_cases z:sz<=cL o lim k q'
  ·exact h3 q' ((hS q').mpr (AO b (Qa T EZ b z) (Wm hq.2.2 a))) a
  ·exact AQ 0x1111411104100020020069101220429 rfl h2 z
 ·intro cu;(refine AI cu λq Cb=>?_;obtain a:=Cb.1;obtain b:=Cb.2.1;obtain e:=Cb.2.2.1;obtain h2:=Cb.2.2.2.1;obtain h3:=Cb.2.2.2.2);exact⟨q,(BR ((hS q).mpr (AO a (Qa T EZ a (lim:=lim) (AM 0x1113110310000101200429 rfl h2)) b)) e h2 (λq' Q9 Cq=>h3 q' Cq ((hS q').mp Q9).1))⟩
theorem VM{o:List Int}{k lim lo:Nat}{wi:Int}(h:lim<=lo):Recs o k lim wi lo []:=by
 refine⟨.nil,λx=>⟨λz=>(by cases z),λ⟨q,_,_,_,h1,_⟩=>?_⟩⟩;have:=D9 (o:=o) (lim:=lim) (p:=k) (q:=q);exact C5 (AQ 0x1113a100009002029201009 rfl h h1 this)
theorem wF{o:List Int}(T:Txt o){sz k lim ch:Nat}{wi:Int}(h1:1<=sz)(hk:k<=o.length)(hl:lim<=o.length-k)(hc:o.length<=ch):
 Recs o k lim wi (sz-1) (EW o k lim (cands (A_ o sz k).2 wi k ch (C_ (A_ o sz k).1 (BL o sz k))) (sz-1)):=by
 have R:=Vm (o:=o) (sz:=sz) k hk;cases EZ:BL o sz k with
 |none=>
  obtain hz:=ZP EZ;have e:cands (A_ o sz k).2 wi k ch (C_ (A_ o sz k).1 none)=[]:=by
   simp only[C_];cases ch with
   |zero=>rfl
   |succ f=>simp only[Ir];exact AG (if_neg (Bp 0x111101125008411251255676 rfl)) rfl
  refine AD e ?_;simp only[Jb];exact VM (rV hl hz)
 |some key=>
  simp only[C_];have nw:=R.last key;have C:=vq R (wi:=wi) (key:=key) ch k _ (BX _) (by rcases nw with⟨z,_⟩|⟨z,z',z'',_⟩<;>omega) nw;have M:=g_ (o:=o) (p:=k) (lim:=lim) (cands (A_ o sz k).2 wi k ch ((Ak (A_ o sz k).1 key).getD (-1))) (sz-1) C.2 (λc hc=>by(refine AI ((C.1 c).mp hc) λq Cg=>?_;refine BQ Cg λe Z=>?_);exact WY e);refine⟨M.1,λx=>(M.2 x).trans (AJ1 T EZ h1 (λq=>(q:Int)∈cands (A_ o sz k).2 wi k ch ((Ak (A_ o sz k).1 key).getD (-1))) λq=>?_)⟩;rw[C.1];constructor
  ·intro zT7;(refine AI zT7 λq' Bt=>?_;refine BQ Bt λe r=>?_);have:q=q':=by exact Ia e
   (try clear e;subst this);exact r
  ·exact λr=>⟨q,⟨rfl,r⟩⟩
end Mine.Internal
set_option genCtorIdx false
namespace Mine.Internal
def Di(o:List Int)(m x y:Nat):Prop:=∃c,c<=m/\Bn o x y c/\(c=m\/oc o (x+c)<oc o (y+c))
theorem Bn.le(h:Bn o x y m):Di o m x y:=⟨m,(AO (BX _) h (.inl rfl))⟩
theorem Di.of_lt(h:Bn o x y c)(hc:c<m)(l:oc o (x+c)<oc o (y+c)):Di o m x y:=⟨c,(AO (DH hc) h (.inr l))⟩
theorem Di.mono(h:Di o m x y)(l:m'<=m):Di o m' x y:=by
 (refine AI h λc Af=>?_;obtain h1:=Af.1;obtain h2:=Af.2.1;obtain h3:=Af.2.2);by_cases z:c<m'
 ·exact⟨c,(AO (DH z) h2 (.inr (h3.resolve_left (cz l z))))⟩
 ·exact⟨m',(AO (Ah 17825792 rfl) (h2.mono (AM 77141735804830313 rfl z)) (.inl rfl))⟩
theorem Di.trans(h:Di o m x y)(k:Di o m y z):Di o m x z:=by
 (refine AI h λc AX=>?_;refine DF AX λh1 h2 h3=>?_);(refine AI k λd A9=>?_;refine DF A9 λk1 k2 k3=>?_);rcases OD c d with q|q|q
 ·refine⟨c,(AO h1 (h2.trans (k2.mono (DH q))) (.inr ?_))⟩;obtain this:=h3.resolve_left (cz k1 q);refine AD (A0 (k2 c q)) ?_;exact this
 ·(try clear k1;subst q);refine⟨c,(AO h1 (h2.trans k2) ?_)⟩;rcases h3 with e|e
  ·exact .inl e
  ·rcases k3 with e'|e'
   ·exact .inl e'
   ·exact .inr (DR 0x111311013112139210139 rfl e e')
 ·refine⟨d,(AO k1 ((h2.mono (DH q)).trans k2) (.inr ?_))⟩;obtain this:=k3.resolve_left (cz h1 q);refine AD (h2 d q) ?_;exact this
theorem Di.u5(h:Di o m x y)(k:Di o m y x):Bn o x y m:=by
 (refine AI h λc Ai=>?_;refine DF Ai λh1 h2 h3=>?_);(refine AI k λd A5=>?_;refine DF A5 λk1 k2 k3=>?_);rcases h3 with e|e
 ·(try clear k3;subst e);exact h2
 ·rcases k3 with e'|e'
  ·(try clear k1;subst e');exact k2.symm
  ·rcases OD c d with q|q|q
   ·obtain this:=k2 c q;exact C5 (Bd 0x112a110159011139 rfl e this)
   ·(try clear k2;subst q);exact C5 (Bd 0x112a110139011139 rfl e e')
   ·obtain this:=h2 d q;exact C5 (Bd 0x112a110159011139 rfl e' this)
inductive TT where
 |nil
 |node (l:TT) (x:Nat) (r:TT)
def TT.mem(y:Nat):TT->Prop
 | .nil=>False
 | .node l x r=>y=x\/TT.mem y l\/TT.mem y r
theorem Ao9:(∀(y:Nat),TT.mem y TT.nil=False)/\(∀(y:Nat)(l:TT)(BE:Nat)(r:TT),TT.mem y (l.node BE r)=(y=BE\/TT.mem y l\/TT.mem y r)):=⟨by intros;rfl,by intros;rfl⟩
def KJ:TT->Prop
 | .nil=>True
 | .node l x r=>(∀y,l.mem y->y<x)/\(∀y,r.mem y->y<x)/\KJ l/\KJ r
def Hy(o:List Int)(m:Nat):TT->Prop
 | .nil=>True
 | .node l x r=>(∀y,l.mem y->Di o m y x)/\(∀y,r.mem y->Di o m x y)/\Hy o m l/\Hy o m r
def Mh:TT->Prop
 | .nil=>True
 | .node l x r=>(∀y,l.mem y->¬r.mem y)/\Mh l/\Mh r
def Rep(C:Nat->Bool->Int):TT->Int->Prop
 | .nil,v=>v=-1
 | .node l x r,v=>v=x/\Rep C l (C x false)/\Rep C r (C x true)
theorem T3:(∀(C:Nat->Bool->Int)(x:Int),Rep C TT.nil x=(x=-1))/\(∀(C:Nat->Bool->Int)(x:Int)(l:TT)(CK:Nat)(r:TT),Rep C (l.node CK r) x=(x=(↑CK:Int)/\Rep C l (C CK eO)/\Rep C r (C CK TC))):=⟨by intros;rfl,by intros;rfl⟩
theorem Rep.frame:∀{t:TT}{v:Int},(∀y,t.mem y->∀b,C' y b=C y b)->Rep C t v->Rep C' t v
 | .nil,_,_,h=>h
 | .node l x r,v,f,h=>by
  simp only[T3]at h|-;refine(AO h.1 ?_ ?_)
  ·rw[f x (.inl rfl)];exact Rep.frame (λy hy=>f y (.inr (.inl hy))) h.2.1
  ·rw[f x (.inl rfl)];exact Rep.frame (λy hy=>f y (.inr (.inr hy))) h.2.2
theorem Hy.mono(l:m'<=m):∀{t:TT},Hy o m t->Hy o m' t
 | .nil,_=>trivial
 | .node _ _ _,h=>(BR (λy hy=>(h.1 y hy).mono l) (λy hy=>(h.2.1 y hy).mono l) (h.2.2.1.mono l) (h.2.2.2.mono l))
theorem AM1(hl:lim<=m)(hy:Di o m y x)(hc:cL o lim p x<lim)(h:oc o (x+cL o lim p x)<oc o (p+cL o lim p x)):cL o lim p y<=cL o lim p x:=by
 by_cases z:cL o lim p y<=cL o lim p x
 ·exact z
 ·obtain h1:=(EH (lim:=lim)).mono (AM 0x112101200300010069 rfl z);obtain h2:=(h1.le).trans (hy.mono (AQ 0x111310120030200029102009 rfl hl hc));(refine AI h2 λc A6=>?_;refine DF A6 λk1 k2 k3=>?_);obtain k4:=OL k2 (AQ 0x111310000122030009102029 rfl hc k1:c<=lim);rcases k3 with e|e
  ·exact AQ 0x101310000121032049102009 rfl k4 e
  ·rcases Mr c (cL o lim p x)with q|q
   ·obtain this:=EH (o:=o) (lim:=lim) (p:=p) (q:=x) c q;exact D0 0x101310000110159110139 rfl e this
   ·obtain this:c=cL o lim p x:=by exact c6 k4 q
    rw[this]at e;exact D0 0x11210000110139011139 rfl h e
theorem AM0(hl:lim<=m)(hy:Di o m x y)(hc:cL o lim p x<lim)(h:oc o (p+cL o lim p x)<oc o (x+cL o lim p x)):cL o lim p y<=cL o lim p x:=by
 by_cases z:cL o lim p y<=cL o lim p x
 ·exact z
 ·obtain h1:=((EH (lim:=lim)).mono (AM 0x112101200300010069 rfl z)).symm;obtain h2:=(hy.mono (AQ 0x111310120030200029102009 rfl hl hc)).trans h1.le;(refine AI h2 λc A2=>?_;refine DF A2 λk1 k2 k3=>?_);obtain k4:=OL k2.symm (AQ 0x111310000122030009102029 rfl hc k1:c<=lim);rcases k3 with e|e
  ·exact AQ 0x101310000121032049102009 rfl k4 e
  ·rcases Mr c (cL o lim p x)with q|q
   ·obtain this:=EH (o:=o) (lim:=lim) (p:=p) (q:=x) c q;exact D0 0x11210000110159011139 rfl e this
   ·obtain this:c=cL o lim p x:=by exact c6 k4 q
    rw[this]at e;exact D0 0x11210000110139011139 rfl h e
theorem lp{o p x lc hc lim}(h1:Di o lc p x)(h2:Di o hc x p)(h3:lc<=lim):BF o p x (lim-min lc hc) (min lc hc)=cL o lim p x:=
 vP ((h1.mono (uK _ _)).u5 (h2.mono (uL _ _))) (AQ 0x11131013201000a0200009 rfl h3)
noncomputable def Cd(S:List Int×List Int)(y:Nat)(b:Bool):Int:=if b=true then S.2.getD y (-1)else S.1.getD y (-1)
theorem Rep.lt:∀{t:TT}{v:Int},Rep C t v->(∀y,t.mem y->y<x)->v<x
 | .nil,v,h,_=>by simp only[T3]at h;exact Bp 0x110140080131250159 rfl h
 | .node l y r,v,h,k=>by simp only[T3]at h;have:=k y (.inl rfl);exact Bm 0x110140080130010291080159 rfl h.1 this
theorem X8{o:List Int}{p lim:Nat}{wi:Int}{SM GR:List Int}{f lo lc hc:Nat}{r:Int}(h:¬((r≠-1/\(p:Int)-r<=wi)/\lo<lim)):Eo o p wi lim SM GR f lo lc hc r=[]:=by
 cases f with
 |zero=>rfl
 |succ f=>exact if_neg h
theorem xi{wi SM GR}(hl:lim<=m)(t):∀(f lo lc hc:Nat)(r:Int),Rep (Cd (SM,GR)) t r->KJ t->Hy o m t->r<f->lc<=lim->hc<=lim->
 (∀y,t.mem y->Di o lc p y)->(∀y,t.mem y->Di o hc y p)->QN o p lim lo wi t.mem (Eo o p wi lim SM GR f lo lc hc r):=by
 induction t with
 |nil=>
  intro f lo lc hc r hr _ _ _ _ _ _ _;rw[show r=-1 from hr,X8 λh=>h.1.1 rfl];exact U8 λZ h Z Z=>h
 |node l x g il ig=>
  intro f lo lc hc r hr hh hb hf IE Iz b1 b2;have hr:r=x/\Rep (Cd (SM,GR)) l (Cd (SM,GR) x false)/\Rep (Cd (SM,GR)) g (Cd (SM,GR) x true):=hr;rw[hr.1]at hf|-;have hf:=HQ.mp hf;cases f with
  |zero=>exact absurd hf (fc _)
  |succ f=>
   have hf:=uG.mp hf;have hn:((x:Int)≠-1/\(p:Int)-x<=wi)/\lo<lim\/¬(((x:Int)≠-1/\(p:Int)-x<=wi)/\lo<lim):=eV _;have old:∀y,(TT.node l x g).mem y->y<=x:=λy m=>m.elim (λe=>fY e) λm=>D3 (m.elim (hh.1 y) (hh.2.1 y));rcases hn with hn|hn
   ·have hk:=lp (b1 x (.inl rfl)) (b2 x (.inl rfl)) IE;have hle:=D9 (o:=o) (lim:=lim) (p:=p) (q:=x);refine(Hd.2 o p wi lim SM GR lo lc hc x f).symm▸?_;rw[if_pos hn,show((x:Int)).toNat=x from rfl,hk];by_cases C7:cL o lim p x<lim
    ·rw[if_pos C7];by_cases hd:o.getD (x+cL o lim p x) 0<o.getD (p+cL o lim p x) 0
     ·rw[if_pos hd];exact U9 hn.1.2 hh.2.1 (λy hy=>⟨hh.1 y hy,AM1 hl (hb.1 y hy) C7 hd⟩) (λy=>or_congr N5 or_comm) (ig f _ _ hc _ hr.2.2 hh.2.2.2 hb.2.2.2 (Mj (Rep.lt hr.2.2 hh.2.1) (FZ.mpr hf)) hle Iz
       (λy hy=>EH.le.trans ((hb.2.1 y hy).mono (Ek (D3 C7) hl))) λy hy=>b2 y (.inr (.inr hy)))
     ·rw[if_neg hd];have Gj:oc o (p+cL o lim p x)<oc o (x+cL o lim p x):=sZ.mpr ⟨P_.mp hd,Qb C7⟩;exact U9 hn.1.2 hh.1 (λy hy=>⟨hh.2.1 y hy,AM0 hl (hb.2.1 y hy) C7 Gj⟩) (λy=>N5) (il f _ lc _ _ hr.2.1 hh.2.2.1 hb.2.2.1 (Mj (Rep.lt hr.2.1 hh.1) (FZ.mpr hf)) IE hle
       (λy hy=>b1 y (.inr (.inl hy))) λy hy=>((hb.1 y hy).mono (Ek (D3 C7) hl)).trans EH.symm.le)
    ·rw[if_neg C7,X8 (f:=f) (lo:=max lo (cL o lim p x)) λh=>C7 (Tu (Nat.le_max_right _ _) h.2)];exact U9 (sub:=λZ=>False) (other:=λy=>l.mem y\/g.mem y) hn.1.2 (λZ h=>h.elim) (λy hy=>⟨hy.elim (hh.1 y) (hh.2.1 y),Ek D9 (Ft.mp C7)⟩) (λy=>or_congr N5 (false_or _).symm.to_iff) (U8 λZ h Z Z=>h)
   ·rw[X8 hn];exact U8 λq hq hw h3=>hn ⟨⟨λz=>(nomatch z),KL (XD (FZ.mpr (old q hq)) _) hw⟩,G1 h3 D9⟩
theorem xh{o:List Int}{p lim m:Nat}{wi:Int}{SM GR:List Int}(hl:lim<=m)(t)(f lo lc hc:Nat)(r:Int)(h1:Rep (Cd (SM,GR)) t r)(h2:KJ t)(h3:Hy o m t)(_:∀y,t.mem y->y<p)(h4:r<f)(h5:lc<=lim)(h6:hc<=lim)
 (h7:∀y,t.mem y->Di o lc p y) (h8:∀y,t.mem y->Di o hc y p):
 Gw (Eo o p wi lim SM GR f lo lc hc r)/\∀z,z∈Eo o p wi lim SM GR f lo lc hc r↔∃q,t.mem q/\(p:Int)-q<=wi/\z=((cL o lim p q:Int),(p:Int)-q)/\lo<cL o lim p q/\∀q',t.mem q'->q<q'->cL o lim p q'<cL o lim p q:=
 xi hl t f lo lc hc r h1 h2 h3 h4 h5 h6 h7 h8
end Mine.Internal
set_option genCtorIdx true
namespace Mine.Internal
noncomputable def part(o:List Int)(p m:Nat)(wi:Int):TT->TT×TT
 | .nil=>(.nil,.nil)
 | .node l x g=>if(p:Int)-x<=wi then
  (if cL o m p x=m then(l,g)
  else if oc o (x+cL o m p x)<oc o (p+cL o m p x)then(.node l x (part o p m wi g).1,(part o p m wi g).2)
  else((part o p m wi l).1,.node (part o p m wi l).2 x g))
  else(.nil,.nil)
theorem Ap7:(∀(o:List Int)(p m:Nat)(wi:Int),part o p m wi TT.nil=(TT.nil,TT.nil))/\(∀(o:List Int)(p m:Nat)(wi:Int)(l:TT)(BE:Nat)(g:TT),part o p m wi (l.node BE g)=if(↑p:Int)-(↑BE:Int)<=wi then if cL o m p BE=m then(l,g)else if oc o (BE+cL o m p BE)<oc o (p+cL o m p BE)then(l.node BE (part o p m wi g).fst,(part o p m wi g).snd)else((part o p m wi l).fst,(part o p m wi l).snd.node BE g)else(TT.nil,TT.nil)):=⟨by intros;rfl,by intros;rfl⟩
structure fw(o:List Int)(p m:Nat)(wi:Int)(t a b:TT):Prop where
 m1:∀y,a.mem y->t.mem y/\Di o m y p
 m2:∀y,b.mem y->t.mem y/\Di o m p y
 h1:KJ a
 h2:KJ b
 b1:Hy o m a
 b2:Hy o m b
 d1:Mh a
 d2:Mh b
 d:∀y,a.mem y->¬b.mem y
 c:∀y,t.mem y->(p:Int)-y<=wi->a.mem y\/b.mem y\/Bn o y p m
abbrev uY(o:List Int)(p m:Nat)(wi:Int)(t:TT):Prop:=fw o p m wi t (part o p m wi t).1 (part o p m wi t).2
theorem AP6(t):KJ t->Hy o m t->Mh t->uY o p m wi t:=by
 induction t with
 |nil=>exact λZ Z Z=>⟨λZ h=>h.elim,λZ h=>h.elim,trivial,trivial,trivial,trivial,trivial,trivial,λZ h=>h.elim,λZ h=>h.elim⟩
 |node l x g il ig=>
  intro H B D
  show fw o p m wi _ (if(p:Int)-x<=wi then _ else _:TT×TT).1 (if(p:Int)-x<=wi then _ else _:TT×TT).2
  by_cases hn:(p:Int)-x<=wi
  ·rw[if_pos hn]
   by_cases hm:cL o m p x=m
   ·rw[if_pos hm]
    have hx:Bn o x p m:=by have:=EH (o:=o) (lim:=m) (p:=p) (q:=x);rw[hm]at this;exact this.symm
    exact⟨λy hy=>⟨.inr (.inl hy),(B.1 y hy).trans hx.le⟩,λy hy=>⟨.inr (.inr hy),hx.symm.le.trans (B.2.1 y hy)⟩,H.2.2.1,H.2.2.2,B.2.2.1,B.2.2.2,D.2.1,D.2.2,D.1,
     λy h Z=>h.elim (λh=>.inr (.inr (h▸hx))) λh=>h.elim .inl λh=>.inr (.inl h)⟩
   ·rw[if_neg hm]
    have hc:cL o m p x<m:=uF D9 hm
    by_cases Cq:oc o (x+cL o m p x)<oc o (p+cL o m p x)
    ·rw[if_pos Cq]
     have ih:=ig H.2.2.2 B.2.2.2 D.2.2
     have lJ:Di o m x p:=.of_lt EH.symm hc Cq
     exact⟨λy h=>h.elim (λh=>⟨.inl h,h▸lJ⟩) λh=>h.elim (λh=>⟨.inr (.inl h),(B.1 y h).trans lJ⟩) λh=>⟨.inr (.inr (ih.m1 y h).1),(ih.m1 y h).2⟩,
      λy hy=>⟨.inr (.inr (ih.m2 y hy).1),(ih.m2 y hy).2⟩,⟨H.1,λy hy=>H.2.1 y (ih.m1 y hy).1,H.2.2.1,ih.h1⟩,ih.h2,⟨B.1,λy hy=>B.2.1 y (ih.m1 y hy).1,B.2.2.1,ih.b1⟩,ih.b2,
      ⟨λy hy h2=>D.1 y hy (ih.m1 y h2).1,D.2.1,ih.d1⟩,ih.d2,
      λy h h2=>h.elim (λh=>absurd (H.2.1 y (ih.m2 y h2).1) (h▸G0 _)) λh=>h.elim (λh=>D.1 y h (ih.m2 y h2).1) λh=>ih.d y h h2,
      λy h hw=>h.elim (λh=>.inl (.inl h)) λh=>h.elim (λh=>.inl (.inr (.inl h))) λh=>(ih.c y h hw).imp (λq=>.inr (.inr q)) id⟩
    ·rw[if_neg Cq]
     have ih:=il H.2.2.1 B.2.2.1 D.2.1
     have kz:Di o m p x:=.of_lt EH hc (sZ.mpr ⟨P_.mp Cq,Qb hc⟩)
     exact⟨λy hy=>⟨.inr (.inl (ih.m1 y hy).1),(ih.m1 y hy).2⟩,
      λy h=>h.elim (λh=>⟨.inl h,h▸kz⟩) λh=>h.elim (λh=>⟨.inr (.inl (ih.m2 y h).1),(ih.m2 y h).2⟩) λh=>⟨.inr (.inr h),kz.trans (B.2.1 y h)⟩,
      ih.h1,⟨λy hy=>H.1 y (ih.m2 y hy).1,H.2.1,ih.h2,H.2.2.2⟩,ih.b1,⟨λy hy=>B.1 y (ih.m2 y hy).1,B.2.1,ih.b2,B.2.2.2⟩,ih.d1,
      ⟨λy hy h2=>D.1 y (ih.m2 y hy).1 h2,ih.d2,D.2.2⟩,
      λy h2 h=>h.elim (λh=>absurd (H.1 y (ih.m1 y h2).1) (h▸G0 _)) λh=>h.elim (λh=>ih.d y h2 h) λh=>D.1 y (ih.m1 y h2).1 h,
      λy h hw=>h.elim (λh=>.inr (.inl (.inl h))) λh=>h.elim (λh=>(ih.c y h hw).imp id (Or.imp (λq=>.inr (.inl q)) id)) λh=>.inr (.inl (.inr (.inr h)))⟩
  ·rw[if_neg hn]
   have LZ:∀y,y<x->¬(p:Int)-y<=wi:=λy h w=>hn (KL (XD (FZ.mpr (D3 h)) _) w)
   exact⟨λZ h=>h.elim,λZ h=>h.elim,trivial,trivial,trivial,trivial,trivial,trivial,λZ h=>h.elim,
    λy h hw=>h.elim (λh=>absurd hw (h▸hn)) λh=>h.elim (λh=>absurd hw (LZ y (H.1 y h))) λh=>absurd hw (LZ y (H.2.1 y h))⟩
theorem U3{α:Type}[Decidable b][Decidable c]{x y u v:α}(h:b↔c)(h1:x=u)(h2:y=v):(if b then x else y)=if c then u else v:=by
 by_cases z:c
 ·rw[if_pos z,if_pos (h.mpr z),h1]
 ·rw[if_neg z,if_neg λw=>z (h.mp w),h2]
theorem oh{l:List Int}{i j:Nat}{v d:Int}(h:i<l.length):(l.set i v).getD j d=if j=i then v else l.getD j d:=(je h).trans (U3 eq_comm rfl rfl)
theorem OM{S}{ow:Nat}{v:Int}{n:Nat}(h1:S.1.length=n)(h2:S.2.length=n)(ho:ow<n)(y:Nat)(b):
 Cd (BV S ow g v) y b=if y=ow/\b=g then v else Cd S y b:=by
 cases g with
 |true=>
  cases b with
  |true=>exact(oh (h2.symm▸ho)).trans (U3 (and_iff_left rfl).symm rfl rfl)
  |false=>exact(if_neg λz=>Ed z.2).symm
 |false=>
  cases b with
  |true=>exact(if_neg λz=>Ed z.2.symm).symm
  |false=>exact(oh (h1.symm▸ho)).trans (U3 (and_iff_left rfl).symm rfl rfl)
theorem Ji{S}:(BV S ow g v).1.length=S.1.length/\(BV S ow g v).2.length=S.2.length:=by
 unfold BV;split<;>simp
def PR(n:Nat)(S S':List Int×List Int)(a b:TT)(lo:Nat)(lg:Bool)(hi:Nat)(hg:Bool)(M:Nat->Prop):Prop:=
 S'.1.length=n/\S'.2.length=n/\Rep (Cd S') a (Cd S' lo lg)/\Rep (Cd S') b (Cd S' hi hg)/\∀y b,¬M y->(y≠lo\/b≠lg)->(y≠hi\/b≠hg)->Cd S' y b=Cd S y b
theorem PR.swap{S lo}(h:PR n S S' a b lo lg hi hg M):PR n S S' b a hi hg lo lg M:=⟨h.1,h.2.1,h.2.2.2.1,h.2.2.1,λy b m n1 n2=>h.2.2.2.2 y b m n2 n1⟩
theorem VN{a b:Nat}{c d:Bool}(h:a≠b\/c≠d)(z:a=b/\c=d):False:=h.elim (λq=>q z.1) λq=>q z.2
theorem Yh{S}{n lo hi:Nat}{u v:Int}(h1:S.1.length=n)(h2:S.2.length=n)(Ca:lo<n)(EY:hi<n)(Ce:lo≠hi\/lg≠hg)(ra:Rep (Cd S) a u)(rb:Rep (Cd S) b v)
 (ma:∀y,a.mem y->y≠lo/\y≠hi) (mb:∀y,b.mem y->y≠lo/\y≠hi):PR n S (BV (BV S lo lg u) hi hg v) a b lo lg hi hg M:=by
 have L:∀y b,Cd (BV (BV S lo lg u) hi hg v) y b=if y=hi/\b=hg then v else if y=lo/\b=lg then u else Cd S y b:=λy b=>
  (OM (Ji.1.trans h1) (Ji.2.trans h2) EY y b).trans (U3 N5 rfl (OM h1 h2 Ca y b))
 have K:∀y b,(y≠lo\/b≠lg)->(y≠hi\/b≠hg)->Cd (BV (BV S lo lg u) hi hg v) y b=Cd S y b:=λy b n1 n2=>(L y b).trans ((if_neg (VN n2)).trans (if_neg (VN n1)));refine⟨Ji.1.trans (Ji.1.trans h1),Ji.2.trans (Ji.2.trans h2),?_,?_,λy b Z=>K y b⟩
 ·rw[(L lo lg).trans ((if_neg (VN Ce)).trans (if_pos ⟨rfl,rfl⟩))];exact ra.frame λy hy b=>K y b (.inl (ma y hy).1) (.inl (ma y hy).2)
 ·rw[(L hi hg).trans (if_pos ⟨rfl,rfl⟩)];exact rb.frame λy hy b=>K y b (.inl (mb y hy).1) (.inl (mb y hy).2)
theorem j7{S S'}{n ow ot x:Nat}{og aG d e a b k q}(h1:S.1.length=n)(h2:S.2.length=n)(how:ow<n)(qU:x≠ow)(xot:x≠ot)(Ce:ow≠ot\/og≠aG)(hd:e≠d)
 (rk:Rep (Cd S) k (Cd S x e)) (kq:∀y,k.mem y->¬q y/\y≠x/\y≠ow/\y≠ot) (qo:¬q ow) (qx:¬q x) (I:PR n (BV S ow og x) S' a b x d ot aG q):
 Cd S' ow og=x/\Rep (Cd S') k (Cd S' x e)/\∀y c,¬q y->y≠x->(y≠ow\/c≠og)->(y≠ot\/c≠aG)->Cd S' y c=Cd S y c:=by
 have H:=OM h1 h2 how (g:=og) (v:=(x:Int));refine⟨(I.2.2.2.2 ow og qo (.inl qU.symm) Ce).trans ((H ow og).trans (if_pos ⟨rfl,rfl⟩)),?_,λy c m nx n1 n2=>(I.2.2.2.2 y c m (.inl nx) n2).trans ((H y c).trans (if_neg (VN n1)))⟩;rw[(I.2.2.2.2 x e qx (.inr hd) (.inl xot)).trans ((H x e).trans (if_neg λz=>qU z.1))];exact rk.frame λy hy c=>(I.2.2.2.2 y c (kq y hy).1 (.inl (kq y hy).2.1) (.inl (kq y hy).2.2.2)).trans ((H y c).trans (if_neg λz=>(kq y hy).2.2.1 z.1))
theorem aH{S}{o:List Int}{p m f lo lc hi hc x k:Nat}{wi:Int}(hk:BF o p x (m-min lc hc) (min lc hc)=k)(hn:(p:Int)-x<=wi):Fm o p wi m (f+1) S lo lg lc hi hg hc (x:Nat)=
 if k=m then BV (BV S lo lg (S.1.getD x (-1))) hi hg ((BV S lo lg (S.1.getD x (-1))).2.getD x (-1))else if oc o (x+k)<oc o (p+k)then Fm o p wi m f (BV S lo lg x) x true k hi hg hc ((BV S lo lg x).2.getD x (-1))else Fm o p wi m f (BV S hi hg x) lo lg lc x false k ((BV S hi hg x).1.getD x (-1)):=by
 subst hk;exact if_pos ⟨λz=>(nomatch z),hn⟩
theorem aK{o:List Int}{p m x:Nat}{wi:Int}(hn:(p:Int)-x<=wi):part o p m wi (.node l x g)=if cL o m p x=m then(l,g)else if oc o (x+cL o m p x)<oc o (p+cL o m p x)then(.node l x (part o p m wi g).1,(part o p m wi g).2)else((part o p m wi l).1,.node (part o p m wi l).2 x g):=if_pos hn
theorem AP5{o p m n wi}(hp:p<n)(t):∀(f:Nat)(S:List Int×List Int)(lo:Nat)(lg:Bool)(lc:Nat)(hi:Nat)(hg:Bool)(hc:Nat)(r:Int),
 S.1.length=n->S.2.length=n->lo<n->hi<n->Rep (Cd S) t r->KJ t->Hy o m t->Mh t->(∀y,t.mem y->y<p)->r<f->lc<=m->hc<=m->(∀y,t.mem y->Di o lc p y)->(∀y,t.mem y->Di o hc y p)->
 ¬t.mem lo->¬t.mem hi->(lo≠hi\/lg≠hg)->PR n S (Fm o p wi m f S lo lg lc hi hg hc r) (part o p m wi t).1 (part o p m wi t).2 lo lg hi hg t.mem:=by
 induction t with
 |nil=>
  intro f S lo lg lc hi hg hc r h1 h2 Ca EY hr _ _ _ _ _ _ _ _ _ _ _ Ce;rw[show r=-1 from hr,show Fm o p wi m f S lo lg lc hi hg hc (-1)=BV (BV S lo lg (-1)) hi hg (-1)by
   cases f with
   |zero=>rfl
   |succ f=>exact if_neg λh=>h.1 rfl]
  exact Yh h1 h2 Ca EY Ce rfl rfl (λZ h=>h.elim) λZ h=>h.elim
 |node l x g ihl ihg=>
  intro f S lo lg lc hi hg hc r h1 h2 Ca EY hr ht hb hd Cq hf IE Iz b1 b2 Rq Rm Ce;have hr:r=x/\Rep (Cd S) l (Cd S x false)/\Rep (Cd S) g (Cd S x true):=hr;rw[hr.1]at hf|-;have hf:=HQ.mp hf;cases f with
  |zero=>exact absurd hf (fc _)
  |succ f=>
  have hf:=uG.mp hf;have SW:x≠lo:=λz=>Rq (.inl z.symm);have WE:x≠hi:=λz=>Rm (.inl z.symm);have xn:x<n:=Gf (Cq x (.inl rfl)) hp;have ll:∀y,l.mem y->y≠lo/\y≠hi:=λy hy=>⟨λz=>Rq (.inr (.inl (z▸hy))),λz=>Rm (.inr (.inl (z▸hy)))⟩;have gg:∀y,g.mem y->y≠lo/\y≠hi:=λy hy=>⟨λz=>Rq (.inr (.inr (z▸hy))),λz=>Rm (.inr (.inr (z▸hy)))⟩;have gx:¬g.mem x:=λz=>absurd (ht.2.1 x z) (G0 _);have lx:¬l.mem x:=λz=>absurd (ht.1 x z) (G0 _);have hle:=D9 (o:=o) (lim:=m) (p:=p) (q:=x);have hk:=lp (b1 x (.inl rfl)) (b2 x (.inl rfl)) IE;by_cases hn:(p:Int)-x<=wi
  ·by_cases hm:cL o m p x=m
   ·rw[(aK hn).trans (if_pos hm),(aH hk hn).trans (if_pos hm),show(BV S lo lg (S.1.getD x (-1))).2.getD x (-1)=Cd S x true from(OM h1 h2 Ca x true).trans (if_neg λz=>SW z.1)];exact Yh h1 h2 Ca EY Ce hr.2.1 hr.2.2 ll gg
   ·by_cases hx:oc o (x+cL o m p x)<oc o (p+cL o m p x)
    ·have H:=OM h1 h2 Ca (g:=lg) (v:=(x:Int));rw[(aK hn).trans ((if_neg hm).trans (if_pos hx)),(aH hk hn).trans ((if_neg hm).trans (if_pos hx)),show(BV S lo lg x).2.getD x (-1)=Cd S x true from(H x true).trans (if_neg λz=>SW z.1)];have I:=ihg f (BV S lo lg x) x true (cL o m p x) hi hg hc (Cd S x true) (Ji.1.trans h1) (Ji.2.trans h2) xn EY (hr.2.2.frame λy hy b=>(H y b).trans (if_neg λz=>(gg y hy).1 z.1)) ht.2.2.2 hb.2.2.2 hd.2.2
      (λy hy=>Cq y (.inr (.inr hy))) (Mj (Rep.lt hr.2.2 ht.2.1) (FZ.mpr hf)) hle Iz (λy hy=>EH.le.trans ((hb.2.1 y hy).mono hle)) (λy hy=>b2 y (.inr (.inr hy))) gx (λz=>Rm (.inr (.inr z))) (.inl WE)
     have J:=j7 (d:=true) (e:=false) h1 h2 Ca SW WE Ce Ed hr.2.1 (λy hy=>⟨hd.1 y hy,G3 (ht.1 y hy),(ll y hy).1,(ll y hy).2⟩) (λz=>Rq (.inr (.inr z))) gx I
     exact⟨I.1,I.2.1,⟨J.1,J.2.1,I.2.2.1⟩,I.2.2.2.1,λy b m=>J.2.2 y b (λz=>m (.inr (.inr z))) λz=>m (.inl z)⟩
    ·have H:=OM h1 h2 EY (g:=hg) (v:=(x:Int))
     rw[(aK hn).trans ((if_neg hm).trans (if_neg hx)),(aH hk hn).trans ((if_neg hm).trans (if_neg hx)),show(BV S hi hg x).1.getD x (-1)=Cd S x false from(H x false).trans (if_neg λz=>WE z.1)]
     have I:=(ihl f (BV S hi hg x) lo lg lc x false (cL o m p x) (Cd S x false) (Ji.1.trans h1) (Ji.2.trans h2) Ca xn (hr.2.1.frame λy hy b=>(H y b).trans (if_neg λz=>(ll y hy).2 z.1)) ht.2.2.1 hb.2.2.1 hd.2.1
      (λy hy=>Cq y (.inr (.inl hy))) (Mj (Rep.lt hr.2.1 ht.1) (FZ.mpr hf)) IE hle (λy hy=>b1 y (.inr (.inl hy))) (λy hy=>((hb.1 y hy).mono hle).trans EH.symm.le) (λz=>Rq (.inr (.inl z))) lx (.inl SW.symm)).swap
     have J:=j7 (d:=false) (e:=true) h1 h2 EY WE SW (Ce.imp HU HU) (λz=>Ed z.symm) hr.2.2 (λy hy=>⟨λz=>hd.1 y z hy,G3 (ht.2.1 y hy),(gg y hy).2,(gg y hy).1⟩) (λz=>Rm (.inr (.inl z))) lx I
     exact⟨I.1,I.2.1,I.2.2.2.1,⟨J.1,I.2.2.1,J.2.1⟩,λy b m n1 n2=>J.2.2 y b (λz=>m (.inr (.inl z))) (λz=>m (.inl z)) n2 n1⟩
  ·rw[show part o p m wi (.node l x g)=(.nil,.nil)from if_neg hn,show Fm o p wi m (f+1) S lo lg lc hi hg hc x=BV (BV S lo lg (-1)) hi hg (-1)from if_neg λz=>hn z.2]
   exact Yh h1 h2 Ca EY Ce rfl rfl (λZ h=>h.elim) λZ h=>h.elim
structure tG(o:List Int)(sz k:Nat)(wi:Int)(C:Nat->Bool->Int)(key:Int)(r:Int)(t:TT):Prop where
 rep:Rep C t r
 h:KJ t
 b:Hy o (o.length-k) t
 d:Mh t
 lt:∀y,t.mem y->y<k
 keys:∀y,t.mem y->BL o sz y=some key
 Qg:∀q:Nat,q<k->BL o sz q=some key->(k:Int)-1-q<=wi->∃y,t.mem y/\q<=y/\Bn o q y (o.length-k)
structure uq(o:List Int)(sz k:Nat)(wi:Int)(st:List (Int×Int)×List Int×List Int):Prop where
 l1:st.2.1.length=o.length
 l2:st.2.2.length=o.length
 t:∀key,∃t,tG o sz k wi (Cd st.2) key ((Ak st.1 key).getD (-1)) t
theorem p9(hc:o.length<ch):∀k,k<=o.length->uq o sz k wi (CG o wi ch sz k)
 |0,_=>⟨by simp[JG],by simp[JG],λkey=>⟨.nil,by simp[JG,Ha,T3],trivial,trivial,trivial,λZ h=>h.elim,λZ h=>h.elim,λq hq=>by omega⟩⟩
 |k+1,hk=>by
  have ih:=p9 (o:=o) (sz:=sz) (wi:=wi) hc k (Sm hk)
  simp only[JG,MN]
  cases EZ:BL o sz k with
  |none=>
   refine⟨ih.l1,ih.l2,λkey=>?_⟩
   obtain⟨t,T⟩:=ih.t key
   refine⟨t,T.rep,T.h,T.b.mono JP,T.d,λy hy=>by have:=T.lt y hy;exact Ib this,T.keys,λq hq Kh hw=>?_⟩
   have:q<k:=by
    rcases LK.mp hq with z|z
    ·exact z
    ·(try clear hw;subst z);rw[EZ]at Kh;exact nS Kh
   (refine AI (T.Qg q this Kh (c7 hw)) λy BC=>?_;obtain a:=BC.1;obtain b:=BC.2.1;obtain c:=BC.2.2)
   exact⟨y,(AO a b (c.mono JP))⟩
  |some O6=>
   dsimp only
   obtain⟨t0,T0⟩:=ih.t O6
   have kn:¬t0.mem k:=λz=>by have:=T0.lt k z;exact Ah 4731174953 rfl this
   have P:=AP5 (o:=o) (p:=k) (m:=o.length-k) (n:=o.length) (wi:=wi) (Np hk) t0 ch (CG o wi ch sz k).2 k false 0 k true 0 ((Ak (CG o wi ch sz k).1 O6).getD (-1)) ih.l1 ih.l2 (Np hk) (Np hk)
    T0.rep T0.h T0.b T0.d T0.lt (by have:=Rep.lt T0.rep T0.lt;exact Cn 0x111140080131080139201210309002029 rfl hc hk this) Wa Wa (λy Z=>Bn.zero.le) (λy Z=>Bn.zero.le) kn kn (.inr (by simp))
   have O:=AP6 (o:=o) (p:=k) (m:=o.length-k) (wi:=wi) t0 T0.h T0.b T0.d
   refine⟨P.1,P.2.1,λkey=>?_⟩
   refine AD OQ ?_
   by_cases e:O6=key
   ·subst e
    refine AD (if_pos rfl)<|⟨.node (part o k (o.length-k) wi t0).1 k (part o k (o.length-k) wi t0).2,(AO rfl P.2.2.1 P.2.2.2.1),(BR (λy hy=>T0.lt y (O.m1 y hy).1) (λy hy=>T0.lt y (O.m2 y hy).1) O.h1 O.h2),
     (BR (λy hy=>(O.m1 y hy).2.mono JP) (λy hy=>(O.m2 y hy).2.mono JP) (O.b1.mono JP) (O.b2.mono JP)),(AO O.d O.d1 O.d2),?_,?_,?_⟩
    ·rintro y (h|h|h)
     ·exact AM 0x101312103002100049 rfl h
     ·have:=T0.lt y (O.m1 y h).1;exact Ib this
     ·have:=T0.lt y (O.m2 y h).1;exact Ib this
    ·rintro y (h|h|h)
     ·(try clear O;subst h);exact EZ
     ·exact T0.keys y (O.m1 y h).1
     ·exact T0.keys y (O.m2 y h).1
    ·intro q hq Kh hw
     rcases LK.mp hq with z|z
     ·(refine AI (T0.Qg q z Kh (c7 hw)) λy BM=>?_;obtain a:=BM.1;obtain b:=BM.2.1;obtain c:=BM.2.2)
      rcases O.c y a (Cn 0x1113011080084110200901208121200384419 rfl hw b)with r|r|r
      ·exact⟨y,(AO (.inr (.inl r)) b (c.mono JP))⟩
      ·exact⟨y,(AO (.inr (.inr r)) b (c.mono JP))⟩
      ·exact⟨k,(AO (.inl rfl) (DH z) ((c.trans r).mono JP))⟩
     ·(try clear hw;subst z);exact⟨q,(AO (.inl rfl) (BX _) Bn.refl)⟩
   ·refine AD (if_neg e) ?_
    obtain⟨t,T⟩:=ih.t key
    refine⟨t,?_,T.h,T.b.mono JP,T.d,λy hy=>by have:=T.lt y hy;exact Ib this,T.keys,λq hq Kh hw=>?_⟩
    ·refine T.rep.frame λy hy b=>?_
     have n1:¬t0.mem y:=λz=>by
      have a:=T0.keys y z
      rw[T.keys y hy]at a
      exact e (Au a).symm
     have n2:y≠k:=λz=>by have:=T.lt y hy;exact AM 0x1103a100029100049 rfl z this
     exact P.2.2.2.2 y b n1 (.inl n2) (.inl n2)
    ·have:q<k:=by
      rcases LK.mp hq with z|z
      ·exact z
      ·(try clear hw;subst z);rw[EZ]at Kh;exact absurd (Au Kh) e
     (refine AI (T.Qg q this Kh (c7 hw)) λy Bx=>?_;obtain a:=Bx.1;obtain b:=Bx.2.1;obtain c:=Bx.2.2)
     exact⟨y,(AO a b (c.mono JP))⟩
theorem p0(T:Txt o)(h1:1<=sz)(hk:k<=o.length)(hl:lim<=o.length-k)(hc:o.length<ch):
 Recs o k lim wi (sz-1) (MM o sz wi ch (CG o wi ch sz k).1 (CG o wi ch sz k).2.1 (CG o wi ch sz k).2.2 k lim):=by
 unfold MM
 cases EZ:BL o sz k with
 |none=>
  obtain hz:=ZP EZ
  exact VM (rV hl hz)
 |some key=>
  dsimp only
  obtain⟨t,KT⟩:=(p9 (o:=o) (sz:=sz) (wi:=wi) hc k hk).t key
  obtain E:=xh (o:=o) (p:=k) (lim:=lim) (m:=o.length-k) (wi:=wi) hl t ch (sz-1) 0 0 ((Ak (CG o wi ch sz k).1 key).getD (-1)) (show Rep (Cd ((CG o wi ch sz k).2.1,(CG o wi ch sz k).2.2)) t _ from KT.rep) KT.h KT.b KT.lt
   (by obtain this:=Rep.lt KT.rep KT.lt;exact Cn 0x111140080131080139002029201009 rfl hk hc this) Nv Nv (λy Z=>Bn.zero.le) (λy Z=>Bn.zero.le)
  obtain e1:((sz:Int)-1).toNat=sz-1:=by exact rW
  refine AD e1<|⟨E.1,λx=>(E.2 x).trans ⟨?_,?_⟩⟩
  ·intro Dh
   (refine AI Dh ?_;intro q CB;obtain hq:=CB.1;obtain hw:=CB.2.1;obtain e:=CB.2.2.1;obtain h2:=CB.2.2.2.1;obtain h3:=CB.2.2.2.2)
   refine⟨q,(An (KT.lt q hq) hw e h2 (λq' a b=>?_))⟩
   by_cases z:sz<=cL o lim k q'
   ·(refine AI (KT.Qg q' b (Qa T EZ b z) (Cn 0x1113011081200844110202901208008419 rfl hw a)) λy Bj=>?_;obtain m:=Bj.1;obtain le:=Bj.2.1;obtain ag:=Bj.2.2)
    obtain this:=h3 y m (c8 a le)
    refine AD (gh (ag.mono hl))<|this
   ·exact AQ 0x1111411104100020020069101220429 rfl h2 z
  ·intro KA
   (apply AI KA;intro q B0;obtain a:=B0.1;obtain hw:=B0.2.1;obtain e:=B0.2.2.1;obtain h2:=B0.2.2.2.1;obtain h3:=B0.2.2.2.2)
   (refine AI (KT.Qg q a (Qa (lim:=lim) T EZ a (AM 0x1113110310000101200429 rfl h2)) (Bm 0x112011081200844101108008419 rfl hw)) λy Cb=>?_;obtain m:=Cb.1;obtain le:=Cb.2.1;obtain ag:=Cb.2.2)
   obtain e2:=gh (p:=k) (ag.mono hl)
   by_cases z:q<y
   ·obtain this:=h3 y z (KT.lt y m)
    exact C5 (AM 0x1013a100029001049 rfl e2 this)
   ·obtain this:y=q:=by exact AM 0x10131103100040010269001009 rfl le z
    subst this;exact⟨y,(An m hw e h2 (λq' Q9 Cq=>h3 q' Cq (KT.lt q' Q9)))⟩
theorem mT:∀(l:List (Int×Int))(st:List (Int×Int)×Int),(l.Pairwise λa b=>a.1<b.1)->(∀x,x∈(l.foldl FJ st).1↔x∈st.1\/(x∈l/\st.2<x.1))/\(l.foldl FJ st).1=st.1++l.filter λx=>decide (st.2<x.1)
 |[],st,_=>by simp
 |a::l,st,h=>by
  obtain h':=OC.mp h;refine AD DW ?_;obtain ih:=mT l (FJ st a) h'.2;have e:(l.foldl FJ (FJ st a)).1=st.1++(a::l).filter λx=>decide (st.2<x.1):=by
   apply AG ih.2;unfold FJ;by_cases c:st.2<a.1
   ·refine AD (if_pos c) ?_;obtain this:(l.filter λx=>decide (a.1<x.1))=l.filter λx=>decide (st.2<x.1):=XJ λx hx=>by obtain this:=h'.1 x hx;simp;omega
    simp only[this,H2,c,decide_true,if_true,tM,List.singleton_append]
   ·refine AD (if_neg c) ?_;simp[H2,c]
  refine⟨λx=>?_,e⟩;(refine AD e ?_;rw[DX,Ez]);simp
theorem Recs.long{lo}(h:Recs o p lim wi lo l):l.Pairwise λa b=>a.1<b.1:=by
 refine tH (λ{a b} ha hb NA=>?_) h.1;(refine AI ((h.2 a).mp ha) λq Cg=>?_;obtain h1:=Cg.1;obtain h2:=Cg.2.1;obtain e:=Cg.2.2.1;obtain h3:=Cg.2.2.2.1;obtain h4:=Cg.2.2.2.2);(refine AI ((h.2 b).mp hb) λq' Bt=>?_;obtain h1':=Bt.1;obtain h2':=Bt.2.1;obtain e':=Bt.2.2.1;obtain Jh:=Bt.2.2.2.1;obtain Yb:=Bt.2.2.2.2);subst e;subst e';simp only at NA|-;have:=Yb q (AQ 0x112100020082084108208439 rfl NA) h1;exact MW this
theorem oI{lo}(hx:Gx o p lim wi lo x)(hy:Gx o p lim wi VH y)(h:x.1<y.1):x.2<y.2:=
 hx.elim λq a=>hy.elim λr b=>by
  rw[a.2.2.1,b.2.2.1]at h|-;have h:cL o lim p q<cL o lim p r:=HQ.mp h;exact tA (HQ.mpr ((OD q r).elim (λz=>absurd (a.2.2.2.2 r z b.1) (Nat.lt_asymm h)) λz=>z.elim (λz=>absurd h (z▸G0 _)) id)) _
def Nr(o:List Int)(k lim sz:Nat)(v:Int):Prop:=(v=-1/\∀q,q<k->cL o lim k q<sz)\/∃q:Nat,v=q/\q<k/\(sz<=lim->sz<=cL o lim k q)/\∀q',q<q'->q'<k->cL o lim k q'<sz
theorem ml(T:Txt o)(hk:k<o.length)(hl:lim<=o.length-k)(R:Xb o sz k (A_ o sz k).1 (A_ o sz k).2):Nr o k lim sz (C_ (A_ o sz k).1 (BL o sz k)):=by
 cases EZ:BL o sz k with
 |none=>exact .inl ⟨rfl,λq hq=>Tu (Ek D9 hl) (Nat.sub_lt_left_of_lt_add (D3 hk) (ZP EZ))⟩
 |some key=>
  have LZ:∀q,q<k->BL o sz q≠some key->cL o lim k q<sz:=λq hq n=>Nat.lt_of_not_le λz=>n (Qa T EZ hq z);exact(R.last key).elim (λz=>.inl ⟨z.1,λq hq=>LZ q hq (z.2 q hq)⟩) λz=>z.elim λq z=>.inr ⟨q,z.1,z.2.1,λhs=>AD7 T EZ z.2.2.1 hs,λq' a b=>LZ q' b (z.2.2.2 q' a b)⟩
def Up(o:List Int)(k lim:Nat)(wi:Int)(l:List (Int×Int))(b:Nat):Prop:=Gw l/\1<=b/\∀x,x∈l↔Gx o k lim wi 1 x/\x.1<=(b:Int)
def Gp(o:List Int)(k lim:Nat)(wi:Int)(b sz:Nat):Prop:=∀q,q<k->(k:Int)-q<=wi->b<cL o lim k q->sz<=cL o lim k q
section
variable{o:List Int}{k lim sz b:Nat}{wi v:Int}{l:List (Int×Int)}
theorem oQ(N:Nr o k lim sz v)(U:Up o k lim wi l b)(G:Gp o k lim wi b sz):∃l' b',Et o k wi lim (l,(b:Int)) v=(l',((b':Nat):Int))/\Up o k lim wi l' b'/\Gp o k lim wi b' (sz+1):=by
 unfold Et;by_cases w:v≠-1/\(k:Int)-v<=wi
 ·rw[if_pos w];refine N.elim (λN=>absurd N.1 w.1) λN=>N.elim λq2 N=>?_;rw[N.1]at w|-;show∃l' b',(if(b:Int)<(cL o lim k q2:Int)then(l++[((cL o lim k q2:Int),(k:Int)-q2)],(cL o lim k q2:Int))else(l,(b:Int)))=(l',((b':Nat):Int))/\_;by_cases c:b<cL o lim k q2
  ·rw[if_pos (HQ.mpr c)];have s2:=G q2 N.2.1 w.2 c;have c1:=Tu U.2.1 c;have r2:Gx o k lim wi 1 ((cL o lim k q2:Int),(k:Int)-q2):=⟨q2,N.2.1,w.2,rfl,c1,λq' x y=>G1 (N.2.2.2 q' x y) s2⟩;refine⟨_,_,rfl,⟨Ti.mpr ⟨U.1,XU _ _,λx hx y hy=>?_⟩,D3 c1,λx=>DX.trans ⟨λh=>h.elim (λh=>?_) λh=>?_,λh=>?_⟩⟩,λq Z Z h=>Tu s2 h⟩
   ·rw[D7.mp hy];have hx:=(U.2.2 x).mp hx;exact oI hx.1 r2 (e9 hx.2 (HQ.mpr c))
   ·have h:=(U.2.2 x).mp h;exact⟨h.1,KL h.2 (FZ.mpr (D3 c))⟩
   ·rw[D7.mp h];exact⟨r2,FY _⟩
   ·by_cases z:x.1<=(b:Int)
    ·exact .inl ((U.2.2 x).mpr ⟨h.1,z⟩)
    ·refine .inr (D7.mpr (h.1.elim λq a=>?_));have h2:=h.2;rw[a.2.2.1]at z h2|-;have e:q=q2:=(OD q q2).elim (λy=>absurd (a.2.2.2.2 q2 y N.2.1) (Ft.mpr (FZ.mp h2))) λy=>y.elim id λy=>absurd (N.2.2.2 q y a.1) (Ft.mpr (G q a.1 a.2.1 (HQ.mp (N6.mp z))));rw[e]
  ·rw[if_neg λz=>c (HQ.mp z)];exact⟨l,b,rfl,U,λq hq hw h=>uF (G q hq hw h) λe=>c (G1 (e▸h) (N.2.2.1 (e▸D9)))⟩
 ·rw[if_neg w];refine⟨l,b,rfl,U,λq hq hw h=>?_⟩;have g:=G q hq hw h;refine N.elim (λN=>absurd (N.2 q hq) (Ft.mpr g)) λN=>N.elim λq2 N=>absurd ⟨?_,?_⟩ w
  ·rw[N.1];exact λz=>nomatch z
  ·rw[N.1];exact KL (XD (FZ.mpr (Ft.mp λy=>Ft.mpr g (N.2.2.2 q y hq))) _) hw
theorem AH4(T4:Recs o k lim wi 3 L4)(U:Up o k lim wi l b)(G:Gp o k lim wi b 4):Recs o k lim wi 1 (L4.foldl FJ (l,(b:Int))).1:=by
 have LT:=mT L4 (l,(b:Int)) T4.long;have fwd:∀x,x∈L4->Gx o k lim wi 1 x:=λx hx=>((T4.2 x).mp hx).elim λq a=>⟨q,a.1,a.2.1,a.2.2.1,Gf (Nat.lt_of_sub_eq_succ rfl) a.2.2.2.1,a.2.2.2.2⟩;refine⟨?_,λx=>(LT.1 x).trans ⟨λh=>h.elim (λh=>((U.2.2 x).mp h).1) λh=>fwd x h.1,λh=>?_⟩⟩
 ·rw[LT.2];refine Ti.mpr ⟨U.1,T4.1.filter _,λx hx y hy=>?_⟩;have hx:=(U.2.2 x).mp hx;have hy:=Ez.mp hy;exact oI hx.1 (fwd y hy.1) (e9 hx.2 (of_decide_eq_true hy.2))
 ·by_cases z:x.1<=(b:Int)
  ·exact .inl ((U.2.2 x).mpr ⟨h,z⟩)
  ·exact .inr ⟨(T4.2 x).mpr (h.elim λq a=>⟨q,a.1,a.2.1,a.2.2.1,G q a.1 a.2.1 (HQ.mp (by rw[a.2.2.1]at z;exact N6.mp z)),a.2.2.2.2⟩),N6.mp z⟩
end
theorem AH9{o:List Int}(T:Txt o){k:Nat}{wi ch mo:Int}(hk:k<o.length)(hm:2<=mo)(hc:o.length<ch):Recs o k (min mo (o.length-k)).toNat wi 1 (Ko o wi ch k mo):=by
 unfold Ko;generalize HC:(min mo (o.length-(k:Int))).toNat=lim;have hl:lim<=o.length-k:=by exact Cn 0x101000611100061110006101000610100061110006111001610100162010400000208108401a949 rfl HC
 have T4:=p0 (o:=o) T (sz:=4) (k:=k) (lim:=lim) (wi:=wi) (ch:=ch.toNat) (EJ 18096416 rfl) (D3 hk) hl (Bp 0x111310130190020100839 rfl hc);rw[show Ho o 4 wi ch k mo=MM o (4:Nat) wi ch.toNat (CG o wi ch.toNat (4:Nat) k).1 (CG o wi ch.toNat (4:Nat) k).2.1 (CG o wi ch.toNat (4:Nat) k).2.2 k lim by unfold Ho;rw[HC];rfl];have U0:Up o k lim wi [] 1:=⟨.nil,BX 1,λx=>⟨λh=>(nomatch h),λh=>h.1.elim λq a=>by have h2:=h.2;rw[a.2.2.1]at h2;exact absurd a.2.2.2.1 (Ft.mpr (FZ.mp h2))⟩⟩;refine(oQ (ml T (sz:=2) hk hl (Vm k (D3 hk))) U0 λZ Z Z h=>h).elim λl2 z=>z.elim λb2 z=>(oQ (ml T (sz:=3) hk hl (Vm k (D3 hk))) z.2.1 z.2.2).elim λl3 y=>y.elim λb3 y=>?_;have e2:Et o k wi lim ([],1) (C_ (A_ o 2 k).1 (BL o 2 k))=(l2,(b2:Int)):=z.1;have e3:Et o k wi lim (l2,(b2:Int)) (C_ (A_ o 3 k).1 (BL o 3 k))=(l3,(b3:Int)):=y.1;rw[e2,e3];exact AH4 T4 y.2.1 y.2.2
noncomputable abbrev Gr:=Nat->Nat->Option (Int×Int)
def Cz(G:Gr):Prop:=∀i j st,G i j=some st->i<j/\(j:Int)=i+BH st.1
def Path(G:Gr):Nat->List (Int×Int)->Nat->Prop
 |i,[],j=>i=j
 |i,st::l,j=>∃m,G i m=some st/\Path G m l j
noncomputable def CJ(c:Int×Int->Int)(l:List (Int×Int)):Int:=(l.map c).sum
theorem GY:CJ c (a++b)=CJ c a+CJ c b:=by simp[CJ,t6]
theorem Pb:CJ c [s]=c s:=by simp[CJ]
theorem pY:CJ c (s::l)=c s+CJ c l:=by simp[CJ]
theorem Path.append:∀{a b:List (Int×Int)}{i j:Nat},Path G i (a++b) j↔∃m,Path G i a m/\Path G m b j
 |[],b,i,j=>⟨λh=>⟨i,⟨rfl,h⟩⟩,λMT=>by(refine AI MT λm AR=>?_;obtain e:=AR.1;obtain h:=AR.2);cases e;exact h⟩
 |st::a,b,i,j=>by
  constructor
  ·intro Dh;(refine AI Dh λm Ai=>?_;obtain g:=Ai.1;obtain h:=Ai.2);(refine AI (Path.append.mp h) λm' A5=>?_;obtain h1:=A5.1;obtain h2:=A5.2);exact⟨m',⟨⟨m,⟨g,h1⟩⟩,h2⟩⟩
  ·intro KA;(refine AI KA λm' A6=>?_;obtain zN8:=A6.1;obtain h2:=A6.2;(refine AI zN8 λm Af=>?_;obtain g:=Af.1;obtain h1:=Af.2));exact⟨m,⟨g,(Path.append.mpr ⟨m',⟨h1,h2⟩⟩)⟩⟩
theorem Path.snoc{st}:Path G i (a++[st]) j↔∃m,Path G i a m/\G m j=some st:=by
 rw[Path.append];constructor
 ·rintro⟨m,h,m',g,e⟩;cases e;exact⟨m,⟨h,g⟩⟩
 ·rintro⟨m,h,g⟩;exact⟨m,⟨h,⟨j,⟨g,rfl⟩⟩⟩⟩
theorem Path.le(g:Cz G):∀{l:List (Int×Int)}{i j:Nat},Path G i l j->i<=j
 |[],i,j,h=>by cases h;exact BX _
 |st::l,i,j,⟨m,h,k⟩=>by obtain this:=(g _ _ _ h).1;obtain this:=Path.le g k;exact AQ 0x111310000102009200029 rfl (by assumption) this
theorem Path.fn(g:Cz G)(g':Cz G'):∀{l:List (Int×Int)}{i j j':Nat},Path G i l j->Path G' i l j'->j=j'
 |[],_,_,_,h,h'=>by cases h;cases h';rfl
 |st::l,i,j,j',⟨m,h,k⟩,⟨m',h',k'⟩=>by
  obtain a:=(g _ _ _ h).2;obtain b:=(g' _ _ _ h').2;obtain this:m=m':=by exact Cn 0x101105110015100040120831085901208300859 rfl a b
  subst this;exact Path.fn g g' k k'
theorem snoc_cases(l:List (Int×Int)):l=[]\/∃a st,l=a++[st]:=by
 rcases QB l with h|⟨a,st,h⟩
 ·exact .inl h
 ·exact .inr (Aj a st (AG h Ml))
def W8(G:Gr)(c:Int×Int->Int)(s i j:Nat)(u:Int):Prop:=∀i' l' CA,Path G s l' i'->G i' j=some CA->u<=CJ c l'+c CA/\(i'<i->u<CJ c l'+c CA)
def Canon(G:Gr)(c:Int×Int->Int)(s:Nat)(l:List (Int×Int))(e:Nat):Prop:=
 Path G s l e/\∀a st b,l=a++st::b->∀i j,Path G s a i->G i j=some st->W8 G c s i j (CJ c a+c st)
theorem Canon.nil:Canon G c s [] s:=⟨rfl,λa st b h=>by cases a<;>exact nC h⟩
theorem Canon.snoc{st}{G:Gr}(g:Cz G)(h:Canon G c s l i)(hs:G i j=some st)(f:W8 G c s i j (CJ c l+c st)):Canon G c s (l++[st]) j:=by
 refine⟨Path.snoc.mpr ⟨i,⟨h.1,hs⟩⟩,λa CA b e i' j' p q=>?_⟩;rcases snoc_cases b with rfl|⟨b',Jz,rfl⟩
 ·obtain this:=tN e rfl;obtain⟨e1,e2⟩:=this;cases e2;(try clear e;subst e1);obtain z:=Path.fn g g p h.1;subst z;obtain z:=(g _ _ _ q).2;obtain z':=(g _ _ _ hs).2;obtain this:j'=j:=by exact Cn 0x101105110015100040120831085901208300859 rfl z z'
  subst this;exact f
 ·obtain e':l++[st]=(a++CA::b')++[Jz]:=by apply AG e;simp
  obtain this:=(tN e' rfl).1;exact h.2 a CA b' this i' j' p q
theorem Canon.init{st}(g:Cz G)(h:Canon G c s (l++[st]) j):∃i,Canon G c s l i/\G i j=some st/\W8 G c s i j (CJ c l+c st):=by
 (refine AI (Path.snoc.mp h.1) λi BC=>?_;obtain p:=BC.1;obtain q:=BC.2);exact⟨i,(AO ⟨p,λa CA b e i' j' p' q'=>h.2 a CA (b++[st]) (by rw[e];simp) i' j' p' q'⟩ q (h.2 l st [] rfl i j p q))⟩
def DK(G:Gr)(c:Int×Int->Int)(s:Nat)(l:List (Int×Int))(e:Nat):Prop:=Path G s l e/\∀l',Path G s l' e->CJ c l<=CJ c l'
theorem Path.loop(g:Cz G)(p:Path G s l s):l=[]:=by
 cases l with
 |nil=>rfl
 |cons x r=>exact p.elim λm z=>absurd (G1 (g _ _ _ z.1).1 (Path.le g z.2)) (G0 _)
theorem snoc_ind{P:List (Int×Int)->Prop}(h0:P [])(h1:∀a st,P a->P (a++[st]))(l:List (Int×Int)):P l:=by
 have h:∀r:List (Int×Int),P r.reverse:=λr=>by
  induction r with
  |nil=>exact h0
  |cons x r ih=>rw[QG];exact h1 _ _ ih
 exact tr l▸h l.reverse
theorem V0(a)(st):CJ c (a++[st])=CJ c a+c st:=(GY ..).trans (congrArg (CJ c a+·) Pb)
theorem Canon.opt{G:Gr}(g:Cz G)(h:Canon G c s l e):DK G c s l e:=by
 refine⟨h.1,λl' p'=>?_⟩;refine(snoc_cases l).elim (λe0=>?_) λz=>z.elim λa z=>z.elim λst e0=>?_
 ·rw[e0]at h|-;have e1:s=e:=h.1;rw[<-e1]at p';rw[Path.loop g p'];exact FY _
 ·rw[e0]at h|-;refine(snoc_cases l').elim (λX6=>?_) λz=>z.elim λa' z=>z.elim λCA X6=>?_
  ·rw[X6]at p';have e1:s=e:=p';rw[<-e1]at h;exact absurd (Path.loop g h.1) (List.append_ne_nil_of_right_ne_nil _ (List.cons_ne_nil _ _))
  ·rw[X6]at p'|-;rw[V0,V0];exact(h.init g).elim λi z=>(Path.snoc.mp p').elim λi' y=>(z.2.2 i' a' CA y.1 y.2).1
theorem Canon.unique(g:Cz G)(n:Nat){l l':List (Int×Int)}{e:Nat}(_:l.length<=n)(h:Canon G c s l e)(h':Canon G c s l' e):l=l':=by
 refine snoc_ind (P:=λl=>∀l' e,Canon G c s l e->Canon G c s l' e->l=l') (λl' e h h'=>?_) (λa st ih l' e h h'=>?_) l l' e h h'
 ·have e1:s=e:=h.1;rw[<-e1]at h';exact(Path.loop g h'.1).symm
 ·refine(snoc_cases l').elim (λe0=>?_) λz=>z.elim λa' z=>z.elim λCA e0=>?_
  ·rw[e0]at h'|-;have e1:s=e:=h'.1;rw[<-e1]at h;exact Path.loop g h.1
  ·rw[e0]at h'|-;refine(h.init g).elim λi z=>(h'.init g).elim λi' y=>?_;have x1:=z.2.2 i' a' CA y.1.1 y.2.1;have x2:=y.2.2 i a st z.1.1 z.2.1;have ei:i=i':=fX (Ft.mp λw=>N6.mpr (x1.2 w) x2.1) (Ft.mp λw=>N6.mpr (x2.2 w) x1.1);rw[ei]at z;rw[ih a' i' z.1 y.1,Au (z.2.1.symm.trans y.2.1)]
theorem Canon.mid(h:Canon G c s (l1++l2++l3) e)(p1:Path G s l1 i)(p2:Path G i l2 j):Canon G c i l2 j:=by
 refine⟨p2,λa st b e1 i' j' p q i2 l' CA p' q'=>?_⟩;have:=h.2 (l1++a) st (b++l3) (by refine AD e1 ?_;simp) i' j' (Path.append.mpr ⟨i,⟨p1,p⟩⟩) q i2 (l1++l') CA (Path.append.mpr ⟨i,⟨p1,p'⟩⟩) q';rw[GY,GY]at this;exact⟨by exact l25 0x1013101331213110131312141331101413331000293121413311014133179 rfl this,λz=>by have:=this.2 z;exact Lx 0x11231213110133312141331101413339 rfl this⟩
def Alike(G G':Gr)(d s e:Nat):Prop:=∀i j,s<=i->j<=e->G' i j=G (i+d) (j+d)
theorem Path.alike(g':Cz G')(g:Cz G):∀{l:List (Int×Int)}{s j:Nat},Alike G G' d s e->j<=e->(Path G' s l j↔Path G (s+d) l (j+d))
 |[],s,j,_,_=>⟨λh=>by cases h;rfl,λh=>by have:s+d=j+d:=h;show s=j;exact AQ 0x1103101310004201032000349 rfl this⟩
 |st::l,s,j,A,hj=>by
  constructor
  ·intro Sk;(refine AI Sk λm Bt=>?_;refine BQ Bt λh k=>?_);have a:=(g' _ _ _ h).1;have b:=Path.le g' k;refine⟨(m+d),⟨((A s m (BX _) (Wo hj b)).symm.trans h),?_⟩⟩;exact(Path.alike g' g (λi j' hi Er=>A i j' (AQ 0x111310000102009200029 rfl a hi) Er) hj).mp k
  ·intro cq;(refine AI cq λm DU=>?_;refine BQ DU λh k=>?_);have a:=(g _ _ _ h).1;have b:=Path.le g k;obtain⟨m,rfl⟩:∃m',m=m'+d:=⟨m-d,by exact AQ 0x100011611031003100310100043004001020329 rfl a⟩;refine⟨m,⟨((A s m (BX _) (CM 0x111310000203032000309103009 rfl hj b)).trans h),?_⟩⟩;exact(Path.alike g' g (λi j' hi Er=>A i j' (CM 0x111310000102009302033000329 rfl a hi) Er) hj).mpr k
theorem Canon.alike(g':Cz G')(g:Cz G)(A:Alike G G' d s e)(h:Canon G c (s+d) l (e+d)):Canon G' c s l e:=by
 have hp:=(Path.alike g' g A (BX _)).mpr h.1;refine⟨hp,λa st b e1 i j p q i' l' CA p' q'=>?_⟩;have hj:j<=e:=by
  rw[e1]at hp;(refine AI (Path.append.mp hp) λm Ct=>?_;refine BQ Ct λp1 Dg=>?_;refine AI Dg λm' Ec=>?_;refine BQ Ec λq1 p2=>?_);have z:=Path.fn g' g' p p1;(try clear p1;subst z);obtain z1:=(g' _ _ _ q).2;obtain z2:=(g' _ _ _ q1).2;have:=Path.le g' p2;exact Ly 0x1110016100001020090130832085901308300859 rfl z1 z2 this
 obtain qi:=(g' _ _ _ q).1;obtain qi':=(g' _ _ _ q').1;obtain si:=Path.le g' p;obtain si':=Path.le g' p';obtain P:=(Path.alike (e:=e) g' g A (Wq hj qi)).mp p;obtain P':=(Path.alike (e:=e) g' g A (Wq hj qi')).mp p';obtain Q:=(A i j (si) hj).symm.trans q;obtain Q':=(A i' j (si') hj).symm.trans q';have:=h.2 a st b e1 (i+d) (j+d) P Q (i'+d) l' CA P' Q';exact⟨this.1,λz=>this.2 (Wr z)⟩
theorem DK.mid(h:DK G c s (l1++l2++l3) e)(p1:Path G s l1 i)(p2:Path G i l2 j)(p3:Path G j l3 e):DK G c i l2 j:=by
 refine⟨p2,λl' p'=>?_⟩;obtain this:=h.2 (l1++l'++l3) (Path.append.mpr ⟨j,⟨(Path.append.mpr ⟨i,⟨p1,p'⟩⟩),p3⟩⟩);rw[GY,GY,GY,GY]at this;exact IL 0x11211011311121333101213319 rfl this
theorem DK.same(h:DK G c s l e)(h':DK G c s l' e):CJ c l=CJ c l':=by
 obtain this:=h.2 l' h'.1;obtain this:=h'.2 l h.1;exact dg (by assumption) this
noncomputable def G_(c:Int×Int->Int)(x:Int×Int)(l:List (Int×Int)):Int×Int:=l.foldl (λy z=>if c z<c y then z else y) x
noncomputable def fmin(c:Int×Int->Int):List (Int×Int)->Option (Int×Int)
 |[]=>none
 |x::l=>some (G_ c x l)
theorem i7:∀(l:List (Int×Int))(x:Int×Int),(G_ c x l=x\/G_ c x l∈l)/\c (G_ c x l)<=c x/\∀y∈l,c (G_ c x l)<=c y
 |[],x=>(AO (.inl rfl) (FY _) (λy h=>by cases h))
 |z::l,x=>by
  have e:G_ c x (z::l)=G_ c (if c z<c x then z else x) l:=rfl;refine AD e ?_;have ih:=i7 (c:=c) l (if c z<c x then z else x);have h1:c (if c z<c x then z else x)<=c x/\c (if c z<c x then z else x)<=c z:=by split<;>omega
  refine(AO ?_ (by have:=ih.2.1;exact IL 0x1011411011312111121179210119 rfl ih.2.1 h1) (λy hy=>?_))
  ·rcases ih.1 with q|q
   ·by_cases w:c z<c x
    ·rw[if_pos w]at q|-;right;refine AD q ?_;exact .head _
    ·rw[if_neg w]at q|-;left;exact q
   ·exact .inr (.tail _ q)
  ·rcases CH.mp hy with q|q
   ·(try clear hy;try clear e;subst q);have:=ih.2.1;exact IL 0x1101411011112113121179210119 rfl ih.2.1 h1
   ·exact ih.2.2 y q
theorem UX(h:fmin c l=some s):s∈l/\∀y∈l,c s<=c y:=by
 cases l with
 |nil=>exact nS h
 |cons x l=>
  simp only[fmin,uV]at h;subst h;have:=i7 (c:=c) l x;refine⟨?_,λy hy=>?_⟩
  ·rcases this.1 with q|q
   ·refine AD q ?_;exact .head _
   ·exact .tail _ q
  ·rcases CH.mp hy with q|q
   ·(try clear hy;subst q);exact this.2.1
   ·exact this.2.2 y q
theorem i8(h:fmin c l=none):l=[]:=by cases l<;>first|rfl|exact sN h
noncomputable def opts(o:List Int)(sh:Int)(R:Nat->List (Int×Int))(p:Nat):List (Int×Int):=
 (0,o.getD p 0)::(R p).flatMap λx=>(BP sh (x.1+1)).map λpart=>(part,x.2)
noncomputable def HA(c:Int×Int->Int)(o:List Int)(sh:Int)(R:Nat->List (Int×Int)):Gr:=λi j=>fmin c ((opts o sh R i).filter λs=>decide ((j:Int)=i+BH s.1))
theorem MG:x∈BP a b↔a<=x/\x<b:=by
 unfold BP;constructor
 ·intro h;(refine AI (DJ.mp h) λk AR=>?_;refine BQ AR λhk C4=>?_;clear AR;(try clear h;subst C4));have:=JV.mp hk;exact rC this
 ·intro h;exact DJ.mpr ⟨((x-a).toNat),⟨(JV.mpr (DR 0x10114100115101141001051121491101492210130111179 rfl h)),(DR 0x110041001410004100041101114980135211131101179 rfl h)⟩⟩
theorem nY{R}(h2:2<=sh):s∈opts o sh R p↔s=(0,o.getD p 0)\/∃x∈R p,sh<=s.1/\s.1<=x.1/\s.2=x.2:=by
 unfold opts;rw[CH,JU];constructor
 ·rintro(h|⟨x,hx,h⟩)
  ·exact .inl h
  ·(refine AI (DJ.mp h) λpart AX=>?_;refine BQ AX λhp Cs=>?_;clear AX;(try clear h;subst Cs));have:=MG.mp hp;exact .inr ⟨x,(BR hx this.1 (DR 0x110311011121130130121179 rfl this) rfl)⟩
 ·rintro(h|⟨x,hx,h1,h3,h4⟩)
  ·exact .inl h
  ·exact .inr ⟨x,⟨hx,(DJ.mpr ⟨s.1,⟨(MG.mpr ⟨h1,by exact Bd 0x11212113013110119 rfl h3⟩),(AD (A0 h4) rfl)⟩⟩)⟩⟩
theorem nZ{R}(h2:2<=sh)(h:s∈opts o sh R p):1<=BH s.1:=by
 rcases(nY h2).mp h with e|⟨x,_,h1,_⟩
 ·rw[e];simp[BH]
 ·unfold BH;split<;>omega
theorem jq{R}(h2:2<=sh):Cz (HA c o sh R):=λi j st h=>by
 have:=Ez.mp (UX h).1;have h1:=nZ h2 this.1;have h3:(j:Int)=i+BH st.1:=by simpa using this.2
 exact Bm 0x110041010411014010083108510002701008310859011219 rfl h1 h3
theorem jo{R}(h2:2<=sh)(i):∃st,HA c o sh R i (i+1)=some st:=by
 unfold HA;have:((0:Int),o.getD i 0)∈(opts o sh R i).filter λs=>decide (((i+1:Nat):Int)=i+BH s.1):=Ez.mpr ⟨.head _,by simp[BH]⟩;cases h:fmin c ((opts o sh R i).filter λs=>decide (((i+1:Nat):Int)=i+BH s.1))with
 |none=>rw[i8 h]at this;cases this
 |some st=>exact⟨st,rfl⟩
noncomputable def Gu(c:Int×Int->Int)(b:Int)(w:Option Int×Option (Int×Int))(st:Int×Int):Option Int×Option (Int×Int):=match w.1 with
 |none=>(some (b+c st),some st)
 |some u=>if b+c st<u then(some (b+c st),some st)else w
theorem qA:∀(l:List (Int×Int))(w:Option Int×Option (Int×Int)),l.foldl (Gu c b) w=match fmin c l with|none=>w|some st=>Gu c b w st
 |[],w=>rfl
 |x::l,w=>by
  have key:∀(l:List (Int×Int))(x:Int×Int),l.foldl (Gu c b) (Gu c b w x)=Gu c b w (G_ c x l):=λl=>by
   induction l with
   |nil=>intro x;rfl
   |cons z l ih=>
    intro x;apply AG DW;have e:G_ c x (z::l)=G_ c (if c z<c x then z else x) l:=rfl;refine AD e<|AD (A0 (ih ..)) ?_
    congr 1;obtain⟨w1,w2⟩:=w;unfold Gu;cases w1 with
    |none=>
     dsimp only;by_cases q:c z<c x
     ·rw[if_pos q,if_pos (by exact DR 80908577795516108181817 (by kernel_rfl) q)]
     ·rw[if_neg q,if_neg (by exact DR 20712595915652124785054569 (by kernel_rfl) q)]
    |some u=>
     dsimp only;by_cases q:c z<c x
     ·refine AD (if_pos q) ?_;by_cases q1:b+c x<u
      ·rw[if_pos q1];dsimp only;rw[if_pos (by exact DR 80908577795516108181817 (by kernel_rfl) q),if_pos (by exact IL 21644783244536124973885716238649 (by kernel_rfl) q q1)]
      ·exact AD (if_neg q1) rfl
     ·refine AD (if_neg q) ?_;by_cases q1:b+c x<u
      ·refine AD (if_pos q1) ?_;dsimp only;exact AG (if_neg (DR 0x1122101311013362111369 rfl q)) rfl
      ·refine AD (if_neg q1) ?_;dsimp only;exact AG (if_neg (IL 0x111321110133621310133693111369 rfl q q1)) rfl
  exact key l x
noncomputable def Fx(S:WS)(j:Nat):Option Int×Option (Int×Int):=(S.1.getD j none,S.2.getD j none)
theorem YT{α:Type}{l:List α}{i j:Nat}{v d:α}(h:i<l.length):(l.set i v).getD j d=if i=j then v else l.getD j d:=by
 (rw[Ej];refine AD (fN) ?_;rw[Ej]);by_cases e:i=j
 ·refine AD (if_pos e)<|AD (if_pos e)<|AD (if_pos (e▸h)) ?_;rfl
 ·rw[if_neg e,if_neg e]
theorem AM3{S}{n:Nat}{at_:Nat}{st:Int×Int}{c:Int×Int->Int}{b:Int}(h1:S.1.length=n+1)(h2:S.2.length=n+1)(hb:S.1.getD at_ none=some b)(hs:1<=BH st.1):
 (D1 n S at_ st (c st)).1.length=n+1/\(D1 n S at_ st (c st)).2.length=n+1/\(D1 n S at_ st (c st)).1.getD at_ none=some b/\
 ∀j,j<=n->Fx (D1 n S at_ st (c st)) j=if(j:Int)=at_+BH st.1 then Gu c b (Fx S j) st else Fx S j:=by
 unfold D1;by_cases hn:(n:Int)<at_+BH st.1
 ·refine AD (if_pos hn)<|(BR h1 h2 hb (λj hj=>by exact AD (if_neg (Cn 0x101140110830085620000901108320839 rfl hn hj)) rfl))
 ·refine AD (if_neg hn)<|AD hb ?_
  dsimp only;obtain⟨t,ht⟩:∃t:Nat,(at_:Int)+BH st.1=t:=⟨((at_:Int)+BH st.1).toNat,by exact Bp 0x10114110310031003010083980100835011219 rfl hs⟩;have e1:((at_:Int)+BH st.1).toNat=t:=by exact Bm 0x1110410100061010410014100100839410801008359 rfl ht
  refine AD e1<|AD ht ?_
  have Lo:∀v w,(S.1.set t v).length=n+1/\(S.2.set t w).length=n+1/\(S.1.set t v).getD at_ none=some b/\∀j,j<=n->Fx (S.1.set t v,S.2.set t w) j=if(j:Int)=t then(v,w)else Fx S j:=λv w=>by
   refine(BR (by simp[h1]) (by simp[h2]) (by refine AD (YT (Ly 0x10001100010b110011071000200012083949012083308369123031049 rfl h1 hn e1))<|AD (if_neg (Bm 0x10000011810101510004600011083949011219 rfl hs e1)) ?_;exact hb) (λj hj=>?_));unfold Fx;refine AD (YT (by exact Ly 26960383754707956318270530925874515381703553404828060408041884029001 (by kernel_rfl) h1 hn e1))<|AD (YT (by exact Ly 26960383754707956318270530925874515381703553404828060408041884029001 (by kernel_rfl) h2 hn e1)) ?_
   by_cases q:t=j
   ·rw[if_pos q,if_pos q,if_pos (by exact AM 1214553243279687378014281 (by kernel_rfl) q)]
   ·rw[if_neg q,if_neg q,if_neg (by exact AM 20707599007201948485092457 (by kernel_rfl) q)]
  cases hu:S.1.getD t none with
  |none=>
   dsimp only;have:=Lo (some (b+c st)) (some st);refine(BR this.1 this.2.1 this.2.2.1 (λj hj=>?_));apply AG (this.2.2.2 j hj);by_cases q:(j:Int)=t
   ·have:j=t:=by exact Ia q
    (try clear Lo;try clear e1;try clear ht;subst this);refine AG (if_pos q)<|AD (if_pos q) ?_
    unfold Gu Fx;exact AD hu rfl
   ·rw[if_neg q,if_neg q]
  |some u=>
   dsimp only;by_cases hc:b+c st<u
   ·refine AD (if_pos hc) ?_;have:=Lo (some (b+c st)) (some st);refine(BR this.1 this.2.1 this.2.2.1 (λj hj=>?_));apply AG (this.2.2.2 j hj);by_cases q:(j:Int)=t
    ·have:j=t:=by exact Ia q
     (try clear Lo;try clear e1;try clear ht;subst this);refine AG (if_pos q)<|AD (if_pos q) ?_
     unfold Gu Fx;refine AD hu ?_;dsimp only;exact AD (if_pos hc) rfl
    ·rw[if_neg q,if_neg q]
   ·refine AD (if_neg hc)<|(BR h1 h2 hb (λj hj=>?_))
    by_cases q:(j:Int)=t
    ·have:j=t:=by exact Ia q
     (try clear Lo;try clear e1;try clear ht;subst this);refine AD (if_pos q) ?_;unfold Gu Fx;refine AD hu ?_;dsimp only;exact AD (if_neg hc) rfl
    ·exact AD (if_neg q) rfl
theorem nR:∀(l:List (Int×Int))(S:WS),S.1.length=n+1->S.2.length=n+1->S.1.getD at_ none=some b->(∀s∈l,1<=BH s.1)->
 (l.foldl (λS st=>D1 n S at_ st (c st)) S).1.length=n+1/\(l.foldl (λS st=>D1 n S at_ st (c st)) S).2.length=n+1/\
 ∀j,j<=n->Fx (l.foldl (λS st=>D1 n S at_ st (c st)) S) j=match fmin c (l.filter λs=>decide ((j:Int)=at_+BH s.1))with|none=>Fx S j|some st=>Gu c b (Fx S j) st
 |[],S,h1,h2,_,_=>(AO h1 h2 (λj Z=>rfl))
 |x::l,S,h1,h2,hb,hs=>by
  have O:=AM3 (c:=c) h1 h2 hb (hs x (.head _));have ih:=nR (c:=c) l _ O.1 O.2.1 O.2.2.1 λs h=>hs s (.tail _ h);rw[DW];refine(AO ih.1 ih.2.1 (λj hj=>?_));rw[ih.2.2 j hj,<-qA,<-qA,O.2.2.2 j hj,H2];by_cases q:(j:Int)=at_+BH x.1
  ·rw[if_pos q,if_pos (by simpa using q),DW]
  ·rw[if_neg q,if_neg (by simpa using q)]
theorem w8{R S start}(h2:2<=sh):
 M6 lit AH o start sh n (R (start+k)) S k=(opts o sh R (start+k)).foldl (λS st=>D1 n S k st (costOf lit AH st)) S:=by
 unfold M6 opts;rw[DW,tT];have e0:costOf lit AH (0,o.getD (start+k) 0)=lit (o.getD (start+k) 0):=by simp[costOf]
 rw[e0];congr 1;funext S x;rw[tU];have:∀(l:List Int)(S:WS),(∀y∈l,2<=y)->l.foldl (λS part=>D1 n S k (part,x.2) (AH part x.2)) S=l.foldl (λS part=>D1 n S k (part,x.2) (costOf lit AH (part,x.2))) S:=λl=>by
  induction l with
  |nil=>intro S _;rfl
  |cons a l ih=>
   intro S h;rw[DW,DW];have ha:=h a (.head _);have:costOf lit AH (a,x.2)=AH a x.2:=by unfold costOf;rw[if_neg (by show¬a=0;exact Aw 77126348379857433 rfl ha)]
   rw[this];exact ih _ λy hy=>h y (.tail _ hy)
 exact this _ S λy hy=>by have:=MG.mp hy;exact DR 0x1011401221122130130111179112219 rfl h2 this
structure JS(G:Gr)(c:Int×Int->Int)(s n k:Nat)(S:WS):Prop where
 l1:S.1.length=n+1
 l2:S.2.length=n+1
 zero:S.1.getD 0 none=some 0
 sound:∀j u,0<j->j<=n->S.1.getD j none=some u->∃i st b,i<k/\i<j/\G (s+i) (s+j)=some st/\S.2.getD j none=some st/\S.1.getD i none=some b/\u=b+c st/\
  ∀i' CA b',i'<i->G (s+i') (s+j)=some CA->S.1.getD i' none=some b'->u<b'+c CA
 comp:∀i j st b,i<k->i<j->j<=n->G (s+i) (s+j)=some st->S.1.getD i none=some b->∃u,S.1.getD j none=some u/\u<=b+c st
 reach:∀j,j<=k->j<=n->S.1.getD j none≠none
def Src(G:Gr)(c:Int×Int->Int)(s k:Nat)(d:Nat->Option Int)(p:Nat->Option (Int×Int))(j:Nat)(u:Int):Prop:=∃i st b,i<k/\i<j/\G (s+i) (s+j)=some st/\p j=some st/\d i=some b/\u=b+c st/\
 ∀i' CA b',i'<i->G (s+i') (s+j)=some CA->d i'=some b'->u<b'+c CA
def Tn(c:Int×Int->Int)(b:Int)(d d':Nat->Option Int)(p p':Nat->Option (Int×Int))(j:Nat)(st:Int×Int):Prop:=
 (d' j=some (b+c st)/\p' j=some st/\∀u,d j=some u->b+c st<u)\/(d' j=d j/\p' j=p j/\∃u,d j=some u/\u<=b+c st)
section
variable{G:Gr}{c:Int×Int->Int}{s n k:Nat}{b:Int}{d d':Nat->Option Int}{p p':Nat->Option (Int×Int)}
theorem Src.keep(low:∀i,i<=k->d' i=d i)(e:p' j=p j)(h:Src G c s k d p j u):Src G c s (k+1) d' p' j u:=
 h.elim λi h=>h.elim λst h=>h.elim λb h=>⟨i,st,b,G2 h.1,h.2.1,h.2.2.1,e.trans h.2.2.2.1,(low i (D3 h.1)).trans h.2.2.2.2.1,h.2.2.2.2.2.1,
  λi' CA b' l g q=>h.2.2.2.2.2.2 i' CA b' l g ((low i' (D3 (Gf l h.1))).symm.trans q)⟩
theorem AV2(F:∀i j st,G i j=some st->i<j)(hb:d k=some b)(low:∀i,i<=k->d' i=d i)(same:∀j,j<=n->G (s+k) (s+j)=none->d' j=d j/\p' j=p j)(turn:∀j st,j<=n->G (s+k) (s+j)=some st->Tn c b d d' p p' j st)
 (old:∀j u,0<j->j<=n->d j=some u->Src G c s k d p j u) (comp:∀i j st b,i<k->i<j->j<=n->G (s+i) (s+j)=some st->d i=some b->∃u,d j=some u/\u<=b+c st)
 (j) (u) (h0:0<j) (hj:j<=n) (hu:d' j=some u):Src G c s (k+1) d' p' j u:=by
 cases hg:G (s+k) (s+j)with
 |none=>exact(old j u h0 hj ((same j hj hg).1.symm.trans hu)).keep low (same j hj hg).2
 |some st=>
  refine(turn j st hj hg).elim (λa=>?_) λa=>(old j u h0 hj (a.1.symm.trans hu)).keep low a.2.1;have kj:=Tt (F _ _ _ hg);have e:b+c st=u:=Au (a.1.symm.trans hu);refine⟨k,st,b,CP k,kj,hg,a.2.1,(low k (BX k)).trans hb,e.symm,λi' CA b' l g q=>?_⟩;exact(comp i' j CA b' l (Gf l kj) hj g ((low i' (D3 l)).symm.trans q)).elim λu' z=>Mj (e▸a.2.2 u' z.1) z.2
theorem wd(hb:d k=some b)(low:∀i,i<=k->d' i=d i)(same:∀j,j<=n->G (s+k) (s+j)=none->d' j=d j/\p' j=p j)(turn:∀j st,j<=n->G (s+k) (s+j)=some st->Tn c b d d' p p' j st)
 (comp:∀i j st b,i<k->i<j->j<=n->G (s+i) (s+j)=some st->d i=some b->∃u,d j=some u/\u<=b+c st)
 (i j) (st) (b') (hi:i<k+1) (Gk:i<j) (hj:j<=n) (hg:G (s+i) (s+j)=some st) (Kd:d' i=some b'):∃u,d' j=some u/\u<=b'+c st:=by
 refine(LK.mp hi).elim (λz=>?_) λz=>?_
 ·refine(comp i j st b' z Gk hj hg ((low i (D3 z)).symm.trans Kd)).elim λu h=>?_;cases kU:G (s+k) (s+j)with
  |none=>exact⟨u,(same j hj kU).1.trans h.1,h.2⟩
  |some Jz=>exact(turn j Jz hj kU).elim (λa=>⟨_,a.1,KL (ey (a.2.2 u h.1)) h.2⟩) λa=>⟨u,a.1.trans h.1,h.2⟩
 ·rw[z]at hg Kd;rw[<-Au ((hb.symm.trans (low k (BX k)).symm).trans Kd)];exact(turn j st hj hg).elim (λa=>⟨_,a.1,FY _⟩) λa=>a.2.2.elim λu h=>⟨u,a.1.trans h.1,h.2⟩
theorem Ag4{st}(h:w'=Gu c b w st):(w'.1=some (b+c st)/\w'.2=some st/\∀u,w.1=some u->b+c st<u)\/(w'.1=w.1/\w'.2=w.2/\∃u,w.1=some u/\u<=b+c st):=by
 rw[h];clear h;obtain⟨w1,w2⟩:=w;cases w1 with
 |none=>exact .inl ⟨rfl,rfl,λZ h=>nS h⟩
 |some u=>
  by_cases z:b+c st<u
  ·rw[show Gu c b (some u,w2) st=(some (b+c st),some st)from if_pos z];exact .inl ⟨rfl,rfl,λZ h=>Au h▸z⟩
  ·rw[show Gu c b (some u,w2) st=(some u,w2)from if_neg z];exact .inr ⟨rfl,rfl,u,rfl,P_.mp z⟩
end
theorem w_{S}(F:∀i j st,G i j=some st->i<j)(L:∀i,∃st,G i (i+1)=some st)(hk:k<n)(I:JS G c s n k S)(hb:S.1.getD k none=some b)(l1:S'.1.length=n+1)(l2:S'.2.length=n+1)
 (cell:∀j,j<=n->Fx S' j=match G (s+k) (s+j)with|none=>Fx S j|some st=>Gu c b (Fx S j) st):JS G c s n (k+1) S':=by
 have same:∀j,j<=n->G (s+k) (s+j)=none->S'.1.getD j none=S.1.getD j none/\S'.2.getD j none=S.2.getD j none:=λj hj h=>by
  have e:=cell j hj
  rw[h]at e
  exact ft e
 have turn:∀j st,j<=n->G (s+k) (s+j)=some st->Tn c b (λj=>S.1.getD j none) (λj=>S'.1.getD j none) (λj=>S.2.getD j none) (λj=>S'.2.getD j none) j st:=λj st hj h=>by
  have e:=cell j hj
  rw[h]at e
  exact Ag4 (w:=Fx S j) (w':=Fx S' j) e
 have low:∀j,j<=k->S'.1.getD j none=S.1.getD j none:=λj hj=>(same j (Ek hj (D3 hk)) (by
  cases h:G (s+k) (s+j)with
  |none=>rfl
  |some st=>exact absurd (Tt (F _ _ _ h)) (Ft.mpr hj))).1
 refine⟨l1,l2,(low 0 (JX k)).trans I.zero,AV2 (d:=λj=>S.1.getD j none) (p:=λj=>S.2.getD j none) F hb low same turn I.sound I.comp,wd (d:=λj=>S.1.getD j none) (p:=λj=>S.2.getD j none) hb low same turn I.comp,λj hj hn=>?_⟩
 refine(Mr k j).elim (λz=>?_) λz=>(low j z).symm▸I.reach j z hn
 obtain⟨st,Bu⟩:=L (s+k)
 have hg:G (s+k) (s+j)=some st:=(show s+j=s+k+1 from congrArg (s+·) (fX hj z))▸Bu;exact(turn j st hn hg).elim (λa h=>sN (a.1.symm.trans h)) λa h=>a.2.2.elim λu q=>sN (q.1.symm.trans (a.1.symm.trans h))
theorem w9{R start}(h2:2<=sh)(k):k<=n->JS (HA (costOf lit AH) o sh R) (costOf lit AH) start n k (Ef lit AH o start sh n (λk=>R (start+k)) k):=by
 induction k with
 |zero=>
  intro _
  refine⟨KQ.trans (congrArg (·+1) tc),tc,rfl,λj u h0 hj h=>?_,λi j st b hi=>absurd hi (fc i),λj hj Z=>by rw[uE.mp hj];exact λh=>sN (show some (0:Int)=none from h)⟩
  cases j with
  |zero=>exact absurd h0 (G0 0)
  |succ j=>
   have h:(CD n (none:Option Int)).getD j none=some u:=h
   rw[Ej,List.getElem?_replicate]at h
   by_cases z:j<n
   ·rw[if_pos z]at h;exact nS h
   ·rw[if_neg z]at h;exact nS h
 |succ k ih=>
  intro hk
  have ih:=ih (D3 hk)
  have e:Ef lit AH o start sh n (λk=>R (start+k)) (k+1)=(opts o sh R (start+k)).foldl (λS st=>D1 n S k st (costOf lit AH st)) (Ef lit AH o start sh n (λk=>R (start+k)) k):=w8 h2
  rw[e]
  obtain⟨b,hb⟩:=Tx.mp (ih.reach k (BX _) (D3 hk))
  have C:=nR (c:=costOf lit AH) (opts o sh R (start+k)) _ ih.l1 ih.l2 hb λs hs=>nZ h2 hs
  refine w_ (λi j st h=>(jq h2 i j st h).1) (λi=>jo h2 i) hk ih hb C.1 C.2.1 λj hj=>?_
  rw[C.2.2 j hj];unfold HA;rw[show((opts o sh R (start+k)).filter λs=>decide ((j:Int)=k+BH s.1))=(opts o sh R (start+k)).filter λs=>decide (((start+j:Nat):Int)=((start+k:Nat):Int)+BH s.1)from XJ λs Z=>decide_eq_decide.mpr ⟨λh=>by exact Cn 0x11031013012000383100038501208310859 rfl h,λh=>by exact Cn 0x11031013011083008501102038300203859 rfl h⟩]
theorem JS.vals{S}(g:Cz G)(D:JS G c s n n S)(l):∀(j:Nat),j<=n->Path G s l (s+j)->∃u,S.1.getD j none=some u/\u<=CJ c l:=by
 refine snoc_ind (P:=λl=>∀(j:Nat),j<=n->Path G s l (s+j)->∃u,S.1.getD j none=some u/\u<=CJ c l) (λj Z h=>?_) (λa st ih j hj h=>?_) l
 ·have e:s=s+j:=h;rw[Nat.left_eq_add.mp e];exact⟨0,D.zero,FY _⟩
 ·refine(Path.snoc.mp h).elim λi z=>?_;obtain⟨i',e⟩:=uB (Path.le g z.1);rw[<-e]at z;have ij:=Tt (g _ _ _ z.2).1;refine(ih i' (D3 (G1 ij hj)) z.1).elim λb hb=>(D.comp i' j st b (G1 ij hj) ij hj z.2 hb.1).elim λu hu=>⟨u,hu.1,?_⟩;rw[V0];exact KL hu.2 (sX hb.2 _)
theorem AZ0{S st}{f i j:Nat}(h0:j≠0)(Bu:S.getD j none=some st)(e:((j:Int)-BH st.1).toNat=i):(HL S (f+1) j).reverse=(HL S f i).reverse++[st]:=by
 rw[bJ.2,if_neg h0,Bu,<-e];exact QG
theorem JS.told{S}(g:Cz G)(D:JS G c s n n S)(f):∀j:Nat,j<=f->j<=n->Canon G c s (HL S.2 f j).reverse (s+j)/\S.1.getD j none=some (CJ c (HL S.2 f j).reverse):=by
 induction f with
 |zero=>
  intro j hf _;rw[uE.mp hf];exact⟨Canon.nil,D.zero⟩
 |succ f ih=>
  intro j hf hj;by_cases h0:j=0
  ·rw[h0];exact⟨Canon.nil,D.zero⟩
  ·obtain⟨u,hu⟩:=Tx.mp (D.reach j hj hj);refine(D.sound j u (Nat.pos_of_ne_zero h0) hj hu).elim λi z=>z.elim λst z=>z.elim λb z=>?_;rw[AZ0 h0 z.2.2.2.1 (show((j:Int)-BH st.1).toNat=i by have hz:=(g _ _ _ z.2.2.1).2;exact Cn 0x1110410100061010410014100100849401102038300203859 rfl hz)];have I:=ih i (Nat.le_of_lt_succ (G1 z.2.1 hf)) (D3 z.1);have eb:u=CJ c (HL S.2 f i).reverse+c st:=(Au (z.2.2.2.2.1.symm.trans I.2))▸z.2.2.2.2.2.1;refine⟨I.1.snoc g z.2.2.1 λi1 l' CA p' q'=>?_,by rw[V0,<-eb];exact hu⟩;obtain⟨i',e⟩:=uB (Path.le g p');rw[<-e]at p' q'|-;have ij:=Tt (g _ _ _ q').1;refine(D.vals g l' i' (D3 (G1 ij hj)) p').elim λb' Kd=>?_;have le:b'+c CA<=CJ c l'+c CA:=sX Kd.2 _;rw[<-eb];exact⟨(D.comp i' j CA b' (G1 ij hj) ij hj q' Kd.1).elim λu' lF=>KL ((Au (hu.symm.trans lF.1))▸lF.2) le,λw=>Mj (z.2.2.2.2.2.2 i' CA b' (Tt w) q' Kd.1) le⟩
theorem JS.ws{S}(g:Cz G)(D:JS G c s n n S):WC n S:=λj h1 hj=>by
 obtain⟨u,hu⟩:∃u,S.1.getD j none=some u:=Tx.mp (D.reach j hj hj);(refine A1 (D.sound j u h1 hj hu) λi st b Bj=>?_;obtain hi:=Bj.1;obtain Gk:=Bj.2.1;obtain hg:=Bj.2.2.1;obtain Bu:=Bj.2.2.2.1);obtain this:=g _ _ _ hg;exact⟨st,(AO Bu (Cn 0x101140112101100038320003852000310003279 rfl this) (Cn 0x1001100700801101201038300103850010320103279 rfl this))⟩
theorem iK{start}:∀k,(∀i,i<k->ms i=ms' i)->Ef lit AH o start sh n ms k=Ef lit AH o start sh n ms' k
 |0,_=>rfl
 |k+1,h=>by
  simp only[Qi];rw[iK k λi hi=>h i (Ib hi),h k Ie]
noncomputable def PF(p:Nat)(wi:Int):List Int:=((EV p).reverse.map λ(q:Nat)=>(q:Int)).filter λq=>decide ((p:Int)-q<=wi)
theorem Rk:c∈PF p wi↔∃q:Nat,c=q/\q<p/\(p:Int)-q<=wi:=by
 unfold PF;rw[Ez];constructor
 ·intro Dh;obtain⟨h,h2⟩:=Dh;(refine AI (DJ.mp h) λq B0=>?_;obtain hq:=B0.1;obtain Hu:=B0.2;subst Hu);rw[QF,JV]at hq;exact⟨q,(AO rfl hq (by simpa using h2))⟩
 ·intro KA;(refine AI KA λq Cg=>?_;obtain SY:=Cg.1;obtain h1:=Cg.2.1;obtain h2:=Cg.2.2;subst SY);exact⟨DJ.mpr ⟨q,⟨(by rw[QF,JV];exact h1),rfl⟩⟩,by simpa using h2⟩
theorem AI9:(PF p wi).Pairwise λa b=>b<a:=by
 unfold PF;refine Ao3 _ (th.mpr ?_);rw[tj];refine Ao4 ?_ (List.pairwise_lt_range (n:=p));intro a b h;exact MW h
noncomputable def oH(o:List Int)(p lim:Nat)(wi:Int)(lo:Nat):List (Int×Int):=EW o p lim (PF p wi) lo
theorem IQ{lo}:Recs o p lim wi lo (oH o p lim wi lo):=by
 obtain M:=g_ (o:=o) (p:=p) (lim:=lim) (PF p wi) lo AI9 (λc hc=>by(refine AI (Rk.mp hc) λq DU=>?_;obtain e:=DU.1);exact WY e);refine⟨M.1,λx=>(M.2 x).trans ?_⟩;constructor
 ·intro Sk;(refine AI Sk λq Ct=>?_;obtain hq:=Ct.1;obtain e:=Ct.2.1;obtain h1:=Ct.2.2.1;obtain h2:=Ct.2.2.2);(refine AI (Rk.mp hq) λq' Dg=>?_;obtain e':=Dg.1;obtain a:=Dg.2.1;obtain b:=Dg.2.2);obtain this:q=q':=by exact Ia e'
  subst this;exact⟨q,(An a b e h1 (λq2 c d=>h2 q2 (Rk.mpr ⟨q2,(AO rfl d (Wm b c))⟩) c))⟩
 ·intro cq;(refine AI cq λq Ec=>?_;obtain a:=Ec.1;obtain b:=Ec.2.1;obtain e:=Ec.2.2.1;obtain h1:=Ec.2.2.2.1;obtain h2:=Ec.2.2.2.2);refine⟨q,(BR (Rk.mpr ⟨q,(AO rfl a b)⟩) e h1 (λq2 c d=>?_))⟩;(refine AI (Rk.mp c) λq' FP=>?_;obtain e':=FP.1;obtain a':=FP.2.1;obtain b':=FP.2.2);exact h2 q2 d (AQ 0x110141000210202920800859 rfl e' a')
theorem Recs.filter{lo}(h:Recs o p lim wi lo l)(hl:lo<=VH):Recs o p lim wi VH (l.filter λy=>decide ((VH:Int)+1<=y.1)):=by
 refine⟨h.1.filter _,λx=>?_⟩;rw[Ez,h.2];constructor
 ·intro ct;obtain⟨⟨q,a,b,e,h1,h2⟩,h3⟩:=ct;rw[e]at h3;simp only[decide_eq_true_eq]at h3;exact⟨q,(An a b e (AM 0x1121000210812008319 rfl h3) h2)⟩
 ·intro cu;(refine AI cu λq FQ=>?_;obtain a:=FQ.1;obtain b:=FQ.2.1;obtain e:=FQ.2.2.1;obtain h1:=FQ.2.2.2.1;obtain h2:=FQ.2.2.2.2);exact⟨⟨q,(An a b e (AQ 0x111310002102029200009 rfl hl h1) h2)⟩,by rw[e];simp only[decide_eq_true_eq];exact AM 0x1121081200831100029 rfl h1⟩
noncomputable def RL(AP:List Int)(wi mo sh:Int)(p:Nat):List (Int×Int):=oH AP p (min mo (AP.length-(p:Int))).toNat wi (sh-1).toNat
def JJ(Ay:Nat)(le:Int):Prop:=Ay<=if le<3 then 2 else 1
theorem qH(h:JJ Ay le)(l1:1<=le):max (Hs Ay le) 2=max le 2:=by
 unfold JJ at h;unfold Hs;split at h<;>split<;>omega
theorem Ai1{AP}(T:Txt AP)(hw:JJ Ay le)(H:HV le wi mo)(hp:p<AP.length):
 (MR Ay AP le wi (AP.length+1) p mo).filter (λy=>decide (max (Hs Ay le) 2<=y.1))=RL AP wi mo (max le 2) p:=by
 obtain⟨l1,l3,w1,m2⟩:=H;refine AD (qH hw l1) ?_;obtain⟨sz,rfl⟩:∃n:Nat,le=n:=⟨le.toNat,by exact Aw 0x112112100310030198015011219 rfl l1⟩;obtain fin:∀l lo,Recs AP p (min mo (AP.length-(p:Int))).toNat wi lo l->(lo:Int)+1<=max (sz:Int) 2->l.filter (λy=>decide (max (sz:Int) 2<=y.1))=RL AP wi mo (max sz 2) p:=λl lo R Ca=>by
  obtain e:max (sz:Int) 2=(((max (sz:Int) 2-1).toNat:Nat):Int)+1:=by exact Ah 0x1013101310004100041003100310014101041000411031001410104100310031000410004121222008b498322008b5 rfl
  obtain F:=R.filter (VH:=(max (sz:Int) 2-1).toNat) (AM 0x100141001051000410110511004101105100041001051222108b4900022108b12008319 rfl Ca);obtain this:(l.filter λy=>decide (max (sz:Int) 2<=y.1))=l.filter λy=>decide ((((max (sz:Int) 2-1).toNat:Nat):Int)+1<=y.1):=by exact AD (A0 e) rfl
  refine AG this<|F.unique IQ
 obtain el:∀z:Nat,((z:Int)-1).toNat=z-1:=λz=>by exact rW
 match Ay,hw with
 |0,_=>
  obtain C:=wF (o:=AP) T (sz:=sz) (k:=p) (lim:=(min mo (AP.length-(p:Int))).toNat) (ch:=((AP.length:Int)+1).toNat) (wi:=wi) (by exact Ah 77124220928659993 (by kernel_rfl) l1) (by exact AM 4821358488846377 (by kernel_rfl) hp) (by exact Bm 26961619491250042781548396945069464164748849052836887215269941877392 (by kernel_rfl)) (by exact Ah 1234270049217515520 (by kernel_rfl));refine fin _ (sz-1) ?_ (Ah 0x11210031003110322008b1212004831 rfl);show Recs AP p _ wi (sz-1) (chFn AP sz wi (AP.length+1) p mo);unfold chFn;refine AD (el ..)<|C
 |1,_=>
  obtain C:=p0 (o:=AP) T (sz:=sz) (k:=p) (lim:=(min mo (AP.length-(p:Int))).toNat) (ch:=((AP.length:Int)+1).toNat) (wi:=wi) (by exact Ah 77124220928659993 (by kernel_rfl) l1) (by exact AM 4821358488846377 (by kernel_rfl) hp) (by exact Bm 26961619491250042781548396945069464164748849052836887215269941877392 (by kernel_rfl)) (by exact Ah 1234270049217515522 (by kernel_rfl));exact fin _ (sz-1) C (Ah 0x11210031003110322008b1212004831 rfl)
 |2,hw=>
  obtain hs:(sz:Int)<3:=by unfold JJ at hw;split at hw<;>omega
  obtain C:=AH9 (o:=AP) T (k:=p) (wi:=wi) (ch:=(AP.length:Int)+1) (mo:=mo) hp m2 (Ah 18769015668867 rfl);exact fin _ 1 C (Ah 0x11210222008b1212831 rfl)
 |n+3,hw=>exfalso;unfold JJ at hw;split at hw<;>omega
noncomputable def GT(c:Int×Int->Int)(AF AP:List Int)(le wi mo:Int):Gr:=HA c AF (max le 2) (RL AP wi mo (max le 2))
theorem ET{AP}:Cz (GT c AF AP le wi mo):=jq Nx
theorem pU{AP start}(T:Txt AP)(ht:AF.length<=AP.length)(hs:start<=AF.length)(hw:JJ Ay le)(H:HV le wi mo):
 JS (GT (costOf lit AH) AF AP le wi mo) (costOf lit AH) start (AF.length-start) (AF.length-start)
  (Ef lit AH AF start (max (Hs Ay le) 2) (AF.length-start) (VJ Ay AP le wi mo start) (AF.length-start)):=by
 obtain e:Ef lit AH AF start (max (Hs Ay le) 2) (AF.length-start) (VJ Ay AP le wi mo start) (AF.length-start)=
  Ef lit AH AF start (max le 2) (AF.length-start) (λk=>RL AP wi mo (max le 2) (start+k)) (AF.length-start):=by
  refine AD (qH hw H.l1)<|iK _ λi hi=>by
   show(MR Ay AP le wi (AP.length+1) (start+i) mo).filter _=_;exact Ai1 T hw H (CM 0x10010061101420100032003041029203009 rfl ht hi)
 refine AD e<|w9 Nx _ (BX _)
theorem Pa{AP start}(T:Txt AP)(ht:AF.length<=AP.length)(hs:start<=AF.length)(hw:JJ Ay le)(H:HV le wi mo):
 Canon (GT (costOf lit AH) AF AP le wi mo) (costOf lit AH) start (EN lit AH Ay AF AP start le wi mo) AF.length:=by
 obtain D:=(pU (lit:=lit) (AH:=AH) T ht hs hw H).told ET (AF.length-start) (AF.length-start) (BX _) (BX _);obtain e:start+(AF.length-start)=AF.length:=by exact We hs
 rw[e]at D;exact D.1
theorem UM:∀(cs:List Int)(lo:Nat),∀y∈EW o p lim cs lo,y.1<=lim
 |[],_,y,h=>by simp[Jb]at h
 |c::cs,lo,y,h=>by
  have hl:=D9 (o:=o) (lim:=lim) (p:=p) (q:=c.toNat);simp only[Jb]at h;split at h
  ·cases h
  ·split at h
   ·split at h
    ·rcases CH.mp h with e|e
     ·refine AD e ?_;show((cL o lim p c.toNat:Nat):Int)<=lim;exact Wg hl
     ·exact UM cs _ y e
    ·exact UM cs _ y h
   ·exact UM cs _ y h
theorem US:∀(f lo lc hc:Nat)(r:Int),lc<=lim->hc<=lim->∀y∈Eo o p wi lim SM GR f lo lc hc r,y.1<=lim
 |0,_,_,_,_,_,_,y,h=>by simp[Hd]at h
 |f+1,lo,lc,hc,r,h1,h2,y,h=>by
  have hl:BF o p r.toNat (lim-min lc hc) (min lc hc)<=lim:=by
   obtain this:∀f k,BF o p r.toNat f k<=f+k:=λf=>by
    induction f with
    |zero=>intro k;simp[L2]
    |succ f ih=>intro k;simp only[L2];obtain this:=ih (k+1);split<;>omega
   obtain this:=this (lim-min lc hc) (min lc hc);exact CM 0x11000161110016110000611100061100016110011611100061100006100003020a3020a10430009103009 rfl h2 this
  simp only[Hd]at h;split at h
  ·rcases DX.mp h with h|h
   ·split at h
    ·refine AD (D7.mp h) ?_;show((BF o p r.toNat (lim-min lc hc) (min lc hc):Nat):Int)<=lim;exact Wg hl
    ·cases h
   ·split at h
    ·split at h
     ·exact US f _ _ _ _ hl h2 y h
     ·exact US f _ _ _ _ h1 hl y h
    ·exact US f _ _ _ _ h1 h2 y h
  ·cases h
theorem UR(o)(p)(wi)(lim)(SM GR):∀(f lo lc hc:Nat)(r:Int),(Eo o p wi lim SM GR f lo lc hc r).length<=f
 |0,_,_,_,_=>by simp[Hd]
 |f+1,lo,lc,hc,r=>by
  simp only[Hd];split
  ·refine AD Tc ?_;obtain h1:∀(b:Prop)[Decidable b](x:Int×Int),(if b then[x]else[]).length<=1:=λb Z x=>by split<;>simp
   obtain h2:(if BF o p r.toNat (lim-min lc hc) (min lc hc)<lim then
    (if o.getD (r.toNat+BF o p r.toNat (lim-min lc hc) (min lc hc)) 0<o.getD (p+BF o p r.toNat (lim-min lc hc) (min lc hc)) 0 then
     Eo o p wi lim SM GR f (max lo (BF o p r.toNat (lim-min lc hc) (min lc hc))) (BF o p r.toNat (lim-min lc hc) (min lc hc)) hc (GR.getD r.toNat (-1))
    else Eo o p wi lim SM GR f (max lo (BF o p r.toNat (lim-min lc hc) (min lc hc))) lc (BF o p r.toNat (lim-min lc hc) (min lc hc)) (SM.getD r.toNat (-1)))
   else Eo o p wi lim SM GR f (max lo (BF o p r.toNat (lim-min lc hc) (min lc hc))) lc hc r).length<=f:=by
    split
    ·split
     ·exact UR o p wi lim SM GR f _ _ _ _
     ·exact UR o p wi lim SM GR f _ _ _ _
    ·exact UR o p wi lim SM GR f _ _ _ _
   obtain this:=h1 (lo<BF o p r.toNat (lim-min lc hc) (min lc hc)) ((BF o p r.toNat (lim-min lc hc) (min lc hc):Int),(p:Int)-r);exact AQ 0x111312203100030120009201009 rfl h2 this
  ·simp
theorem gy(o)(p lim):∀(cs:List Int)(lo:Nat),(EW o p lim cs lo).length<=cs.length
 |[],_=>by simp[Jb]
 |c::cs,lo=>by
  obtain a:=λlo=>gy o p lim cs lo;simp only[Jb,KQ];split
  ·simp
  ·split
   ·split
    ·refine AD KQ ?_;obtain this:=a (BF o p c.toNat lim 0);exact c9 this
    ·obtain this:=a lo;exact HP this
   ·obtain this:=a lo;exact HP this
theorem gu:∀(f:Nat)(r:Int),(cands B wi p f r).length<=f
 |0,_=>by simp[Ir]
 |f+1,r=>by
  simp only[Ir];split
  ·refine AD KQ ?_;obtain this:=gu (B:=B) (wi:=wi) (p:=p) f (B.getD r.toNat (-1));exact c9 this
  ·simp
theorem Ai2{AP}(T:Txt AP)(k):(MR Ay AP le wi (AP.length+1) k mo).length<=2000/\∀y∈MR Ay AP le wi (AP.length+1) k mo,y.1<=100000:=by
 have tl:=T.len;generalize HC:(min mo (AP.length-(k:Int))).toNat=lim;have hl:lim<=1000:=by exact Cn 0x11000061001100019110000610011001193ef8f200000208108401a9493ef8f21009 rfl tl HC
 have lE:∀le,(Ho AP le wi (AP.length+1) k mo).length<=1001/\∀y∈Ho AP le wi (AP.length+1) k mo,y.1<=1000:=λle=>by
  unfold Ho MM;refine AD HC ?_;cases BL AP le k with
  |none=>simp
  |some key=>
   dsimp only;constructor
   ·have:=UR AP k wi lim (CG AP wi ((AP.length:Int)+1).toNat le k).2.1 (CG AP wi ((AP.length:Int)+1).toNat le k).2.2 ((AP.length:Int)+1).toNat (le-1).toNat 0 0 ((Ak (CG AP wi ((AP.length:Int)+1).toNat le k).1 key).getD (-1));exact AM 0x11004110143ef9f2000121083900093ef8f21009 rfl tl this
   ·intro y hy;have:=US _ _ _ _ _ Nv Nv y hy;exact Bp 0x11133ef8f201100801193ef8f20009 rfl hl this
 match Ay with
 |0=>
  show(chFn AP le wi (AP.length+1) k mo).length<=2000/\∀y∈chFn AP le wi (AP.length+1) k mo,y.1<=100000;unfold chFn;refine AD HC ?_;constructor
  ·refine Ek (gy _ _ _ _ _)<|Ek (gu _ _)<|Ah 0x100310137df0f2120083903ef8f20009 rfl tl
  ·intro y hy;have:=UM _ _ y hy;exact Bp 0x111318f6faf0f201100801193ef8f20009 rfl hl this
 |1=>
  have:=lE le;exact⟨by show(Ho AP le wi (AP.length+1) k mo).length<=2000;exact Ah 0x1127df0f20003ef9f20009 rfl this.1,λy hy=>by have:=this.2 y hy;exact Aw 0x11218f6faf0f20113ef8f20119 rfl this⟩
 |n+2=>
  show(Ko AP wi (AP.length+1) k mo).length<=2000/\∀y∈Ko AP wi (AP.length+1) k mo,y.1<=100000;unfold Ko;refine AD HC ?_;have t:=lE 4;have row:∀(st:List (Int×Int)×Int)(r:Int)(m:Nat),st.1.length<=m->(∀y∈st.1,y.1<=1000)->(Et AP k wi lim st r).1.length<=m+1/\∀y∈(Et AP k wi lim st r).1,y.1<=1000:=λst r m h1 h2=>by
   unfold Et;split
   ·split
    ·refine⟨by simp;exact h1,λy hy=>?_⟩;rcases DX.mp hy with e|e
     ·exact h2 y e
     ·refine AD (D7.mp e) ?_;have:=D9 (o:=AP) (lim:=lim) (p:=k) (q:=r.toNat);show((cL AP lim k r.toNat:Nat):Int)<=1000;exact AM 0x11133ef8f200811000093ef8f21009 rfl hl this
    ·exact⟨by exact HP h1,h2⟩
   ·exact⟨by exact HP h1,h2⟩
  obtain tree:∀(l:List (Int×Int))(st:List (Int×Int)×Int),(∀y∈l,y.1<=1000)->(∀y∈st.1,y.1<=1000)->(l.foldl FJ st).1.length<=st.1.length+l.length/\∀y∈(l.foldl FJ st).1,y.1<=1000:=λl=>by
   induction l with
   |nil=>intro st _ h;exact⟨by simp,h⟩
   |cons a l ih=>
    intro st h1 h2;refine AD DW ?_;have Bu:(FJ st a).1.length<=st.1.length+1/\∀y∈(FJ st a).1,y.1<=1000:=by
     unfold FJ;split
     ·refine⟨by simp,λy hy=>?_⟩;rcases DX.mp hy with e|e
      ·exact h2 y e
      ·refine AD (D7.mp e) ?_;exact h1 a (.head _)
     ·exact⟨by exact Ah 73316446208 rfl,h2⟩
    have:=ih (FJ st a) (λy hy=>h1 y (.tail _ hy)) Bu.2;exact⟨by refine AD KQ ?_;exact CM 0x111312203103000203030009121033009 rfl Bu.1 this.1,this.2⟩
  have r1:=row ([],1) (C_ (A_ AP 2 k).1 (BL AP 2 k)) 0 (by simp) (by simp);have r2:=row _ (C_ (A_ AP 3 k).1 (BL AP 3 k)) _ r1.1 r1.2;have r3:=tree (Ho AP 4 wi (AP.length+1) k mo) _ t.2 r2.2;exact⟨by exact AQ 0x111147df0f20002010300091212023310093ef9f22009 rfl t.1 r2.1 r3.1,λy hy=>by have:=r3.2 y hy;exact Aw 0x11218f6faf0f20113ef8f20119 rfl this⟩
theorem SG{AP start}(T:Txt AP)(ht:AF.length<=AP.length)(hs:start<=AF.length)(hw:JJ Ay le)(H:HV le wi mo):
 LQ lit AH Ay AF AP start le wi mo:=⟨Ai2 T,(pU T ht hs hw H).ws ET⟩
def Pre(AF AP:List Int):Prop:=AF.length<=AP.length/\∀i,i<AF.length->oc AF i=oc AP i
theorem Pre.refl:Pre t t:=⟨BX _,λZ Z=>rfl⟩
theorem Xa{AP}(h2:2<=sh)(h:x∈RL AP wi mo sh p)(hp:p<=AP.length):
 ∃q:Nat,q<p/\x.2=(p:Int)-q/\x.2<=wi/\x.1<=mo/\sh<=x.1/\(p:Int)+x.1<=AP.length/\Bn AP p q x.1.toNat:=by
 (refine AI ((IQ.2 x).mp h) λq A9=>?_;obtain a:=A9.1;obtain b:=A9.2.1;obtain e:=A9.2.2.1;obtain h1:=A9.2.2.2.1);obtain hl:=D9 (o:=AP) (lim:=(min mo (AP.length-(p:Int))).toNat) (p:=p) (q:=q);subst e;refine⟨q,(Dz a rfl b (by show((cL AP _ p q:Nat):Int)<=mo;exact Jo 0x1001051101006100105110000610011511010061001151100006010081208108401a900090012114929 rfl h1 hl) (by show sh<=((cL AP _ p q:Nat):Int);exact Bp 0x111311030080110012014929 rfl h1) (by show(p:Int)+((cL AP _ p q:Nat):Int)<=_;exact Cn 0x11001511000511001511010520810800831008208401a91009200009 rfl hp hl) ?_)⟩;obtain e:((cL AP (min mo (AP.length-(p:Int))).toNat p q:Nat):Int).toNat=cL AP (min mo (AP.length-(p:Int))).toNat p q:=by exact cy
 show Bn AP p q ((cL AP (min mo (AP.length-(p:Int))).toNat p q:Nat):Int).toNat;refine AD e<|EH
theorem pB{AP st}(P:Pre AF AP)(h:GT c AF AP le wi mo i j=some st)(hj:j<=AF.length):
 stepOk AF le wi mo i st=true/\BH st.1=max 1 st.1:=by
 have ok:=ET _ _ _ h;obtain m:=(Ez.mp (UX h).1).1;obtain hP:=P.1;rcases(nY Nx).mp m with e|⟨x,hx,h1,h2,h3⟩
 ·(try clear m;subst e);refine⟨?_,rfl⟩;unfold stepOk;apply AG (if_pos rfl);have hs:=R9 (o:=AF) (sz:=1) (p:=i) (i:=0) (Cn 0x1001151012003001008320852000279102009 rfl hj ok) (EJ 17899554 rfl);obtain hl:=R_ (o:=AF) (sz:=1) (p:=i) (Cn 0x1001151012003001008320852000279102009 rfl hj ok);simp only[decide_eq_true_eq];match hq:A3 AF (some (i:Int)) (some ((i:Int)+(1:Nat))),hl,hs with
  |[y],_,hs=>
   have e:y=oc AF (i+0):=by simpa using hs
   refine AD e ?_;rfl
 ·(refine AI (Xa Nx hx (Ly 0x11001161000010200901008330853000279203009 rfl hj ok hP)) λq Ai=>?_;refine En Ai λa e2 w hm Fg hlen ag=>?_);have n0:st.1≠0:=by exact Bd 0x11131103020156012211b19 rfl h1
  have es:BH st.1=st.1:=by unfold BH;exact if_neg n0
  refine⟨?_,by apply AG es;exact D0 0x100101171100000710000007100000070112b01501115911008310851000279 rfl ok es⟩;unfold stepOk;apply AG (if_neg n0);obtain⟨L,hL⟩:∃L:Nat,st.1=L:=⟨st.1.toNat,by exact D0 0x1010116110000071000000710000007019801501115911008310851000279 rfl ok es⟩;obtain eq:(i:Int)-st.2=q:=by exact D0 0x101015110105108010084510800841159110159 rfl h3 e2
  refine AD eq<|AD hL ?_
  simp only[decide_eq_true_eq];refine(An (Dv 0x10011161001106100110610011160080122b10081159112201b19 rfl h1 hL) (RQ 0x1101150100810081159012119211119 rfl h2 hm hL) (D0 0x11011060112110800841159001029110159 rfl h3 a e2) (O7 0x10100017101000101911008a01111211910800842159210159 rfl h3 e2 w) ?_);refine(Vq (l7 0x1101011001a20100030108015901115930002911308340854030279204009 rfl hj ok a es hL) (l6 0x110101001920100030108015901115911008330853000279203009 rfl hj ok es hL)).mpr λk hk=>AD (P.2 (q+k) (l62 0x11101011001b20100032301029308015901115940002911408350855040279205009 rfl hj ok a es hL hk))<|AD (P.2 (i+k) (l7 0x1110101001a20100032301029308015901115911008340854000279204009 rfl hj ok es hL hk)) ?_
  exact(ag k (D0 0x111101610110160190021000291081159011119 rfl h2 hL hk)).symm
noncomputable def Eg:List (Int×Int)->Int->List Int
 |[],pl=>[pl]
 |x::r,pl=>pl::Eg r (pl+max 1 x.1)
theorem PA:(∀(x:Int),Eg [] x=[x])/\(∀(x:Int)(CK:Int×Int)(r:List (Int×Int)),Eg (CK::r) x=x::Eg r (x+To 1 CK.fst)):=⟨by intros;rfl,by intros;rfl⟩
theorem PB:∀(l:List (Int×Int))(pl:Int),(Eg l pl).length=l.length+1
 |[],_=>rfl
 |x::r,pl=>by simp[PA,PB r]
theorem UG{AP}(P:Pre AF AP):∀(l:List (Int×Int))(s:Nat)(Az:List Int),Path (GT c AF AP le wi mo) s l AF.length->Gg AF le wi mo l Az s=Az++Eg l s
 |[],s,Az,h=>by
  have:s=AF.length:=h;simp only[UE,PA];exact AG (if_pos (AM 0x110310131080085100049 rfl this)) rfl
 |st::l,s,Az,⟨m,h,k⟩=>by
  obtain hm:=Path.le ET k;obtain so:=pB P h hm;obtain e:=(ET _ _ _ h).2;simp only[UE,PA];apply AG (if_pos so.1);obtain e2:(s:Int)+max 1 st.1=(m:Int):=by refine AD (A0 so.2) ?_;exact Bm 0x10131103108010083501008310859 rfl e
  refine AD e2<|AG (UG P l m _ k) ?_
  simp
theorem mU(g:Cz G):∀(l:List (Int×Int))(s e:Nat),Path G s l e->(∀i j st,G i j=some st->j<=e->BH st.1=max 1 st.1)->∀k,k<=l.length->∃m:Nat,(Eg l s)[k]? =some (m:Int)/\Path G s (l.take k) m/\Path G m (l.drop k) e
 |[],s,e,h,_,k,hk=>by
  have:k=0:=by simpa using hk
  (try clear hk;subst this);exact⟨s,(AO rfl rfl h)⟩
 |st::l,s,e,⟨m,h,p⟩,hs,0,_=>⟨s,(AO rfl rfl ⟨m,⟨h,p⟩⟩)⟩
 |st::l,s,e,⟨m,h,p⟩,hs,k+1,hk=>by
  obtain hm:=Path.le g p;obtain e1:=(g _ _ _ h).2;obtain e2:(s:Int)+max 1 st.1=(m:Int):=by refine AD (A0 (hs _ _ _ h hm)) ?_;exact Bm 0x10131103108010083501008310859 rfl e1
  (refine AI (mU g l m e p hs k (by simpa using hk)) λm' A5=>?_;obtain a:=A5.1;obtain b:=A5.2.1;obtain c:=A5.2.2);refine⟨m',(AO ?_ ⟨m,⟨h,b⟩⟩ c)⟩;simp only[PA,tV,e2];exact a
theorem gS{AF:List Int}{pl:Nat}{wi:Int}{len:Nat}(hl:pl+len<=AF.length):∀(f:Nat)(bk:Int),1<=bk->(pl:Int)+2<=bk+f->
 bk<=Fw AF pl wi len f bk/\(∀q:Nat,q<pl->(pl:Int)-q<=wi->bk<=(pl:Int)-q->(pl:Int)-q<Fw AF pl wi len f bk->¬Bn AF pl q len)/\
 (Fw AF pl wi len f bk<=min (pl:Int) wi->∃q:Nat,q<pl/\(pl:Int)-q=Fw AF pl wi len f bk/\Bn AF pl q len)
 |0,bk,h1,h2=>by
  simp only[UC];exact(AO (FY _) (λq hq hw a b=>by exact C5 (c_ a b)) (λh=>by exact C5 (Dv 0x11131013a11008a011902801322008319 rfl h2 h)))
 |f+1,bk,h1,h2=>by
  simp only[UC];by_cases hb:bk<=min (pl:Int) wi
  ·obtain⟨q,hq⟩:∃q:Nat,(pl:Int)-bk=q:=⟨((pl:Int)-bk).toNat,by exact Dv 0x101141100410004100041010411004100041000401008498010084511008a0119 rfl hb⟩;have hs:A3 AF (some ((pl:Int)-bk)) (some ((pl:Int)-bk+len))=A3 AF (some (pl:Int)) (some ((pl:Int)+len))↔Bn AF pl q len:=by
    (refine AD hq ?_;rw[Vq (by exact Ly 97076984117512732498172110727199737391811330825 (by kernel_rfl) hl h1 hq) hl]);exact⟨λh i hi=>(h i hi).symm,λh i hi=>(h i hi).symm⟩
   by_cases ha:Bn AF pl q len
   ·refine AD (if_neg (λz=>z.2 (hs.mpr ha)))<|(AO (FY _) (λq' Z Z a b=>by exact C5 (c_ a b)) (λZ=>⟨q,(AO (Bm 0x110141000200801108459011219 rfl h1 hq) (Bm 0x11031013011080084510801008459 rfl hq) ha)⟩))
   ·refine AD (if_pos ⟨hb,λz=>ha (hs.mp z)⟩) ?_;obtain ih:=gS hl f (bk+1) (Aw 0x11212013121011219 rfl h1) (Bm 0x112108120133220083112103801322008319 rfl h2) (wi:=wi);refine(AO (Bd 0x11211011111201319 rfl ih.1) (λq' Q9 hw a b=>?_) ih.2.2);by_cases z:(pl:Int)-q'=bk
    ·obtain this:q'=q:=by exact Cn 0x101105110015100040100820845910801208459 rfl hq z
     subst this;exact ha
    ·exact ih.2.1 q' Q9 hw (Bm 0x1121103108008412013101108008456910800840119 rfl a z) b
  ·refine AD (if_neg (λz=>hb z.1))<|(AO (FY _) (λq hq hw a b=>by exact C5 (c_ a b)) (λh=>absurd h hb))
theorem gi(h:L<=L'):cL o L p q=min L (cL o L' p q):=by
 obtain h1:=D9 (o:=o) (lim:=L') (p:=p) (q:=q);refine Xp (EH.mono (uL _ _)) (uK _ _) λz=>?_;obtain e:min L (cL o L' p q)=cL o L' p q:=by exact AM 0x1000410004100141103102102102102101000a4001000a29 rfl z
 rw[e]at z|-;exact Qb (Pz h z)
theorem AQ3{lo}(R:Recs o p L wi lo Az)(Ca:lo<=L)(h1:q0<p)(h2:(p:Int)-q0<=wi)(ha:Bn o p q0 (L+1))(hn:∀q,q0<q->q<p->¬Bn o p q (L+1)):
 Recs o p (L+1) wi lo (Jx Az ((L+1:Nat):Int) ((p:Int)-q0)):=by
 have c0:cL o (L+1) p q0=L+1:=by have:=OL ha (BX _);have:=D9 (o:=o) (lim:=L+1) (p:=p) (q:=q0);exact AM 0x1013110312103004121030009001210309 rfl (by assumption) this
 have full:∀q,q0<q->q<p->cL o (L+1) p q<=L:=λq a b=>by
  by_cases z:L+1<=cL o (L+1) p q
  ·exact absurd (EH.mono z) (hn q a b)
  ·exact AM 0x112100000012103069 rfl z
 have cm:∀q,cL o L p q=min L (cL o (L+1) p q):=λq=>gi (Ah 73316446208 rfl);have key:∀x,Gx o p (L+1) wi lo x↔x=(((L+1:Nat):Int),(p:Int)-q0)\/(Gx o p L wi lo x/\x.2≠(p:Int)-q0):=λx=>by
  constructor
  ·intro Dh;(refine AI Dh λq A6=>?_;refine Cu A6 λa b e g1 g2=>?_);rcases OD q q0 with z|z|z
   ·have:=g2 q0 z h1;have:=D9 (o:=o) (lim:=L+1) (p:=p) (q:=q);omega
   ·(try clear full;subst z);left;rw[e,c0]
   ·right;have hq:=full q z a;have hc:=cm q;refine⟨⟨q,(An a b (by refine AG e ?_;congr 2;exact AQ 0x101005110005101105110015100040020a1049200009 rfl hq hc) (CM 0x11000161100116100023020a1049203009300029 rfl g1 hq hc) (λq' c d=>?_))⟩,by refine AD e ?_;show(p:Int)-q≠_;exact AQ 0x10132080084108008456102029 rfl z⟩;have:=g2 q' c d;have:=cm q';exact Lz 0x1010110009110001610101100191100016100023020a00494030294020a1049204009 rfl hq hc (by assumption) this
  ·rintro(e|⟨⟨q,a,b,e,g1,g2⟩,Ce⟩)
   ·exact⟨q0,(An h1 h2 (by rw[e,c0]) (AQ 0x1101410002122031049200009 rfl Ca c0) (λq' c d=>by have:=full q' c d;exact dZ c0 this))⟩
   ·rw[e]at Ce;simp only at Ce;have hc:=cm q;obtain Jj:=cm q0;have z:q0<q:=by
     rcases OD q q0 with z|z|z
     ·have:=g2 q0 z h1;have:=D9 (o:=o) (lim:=L) (p:=p) (q:=q);exact Zc 0x110311100007100023020092040295030a4049123035049 rfl c0 Jj (by assumption) this
     ·(try clear full;subst z);exact absurd rfl Ce
     ·exact z
    have hq:=full q z a;refine⟨q,(An a b (by apply AG e;congr 2;exact rX hc hq) (CM 0x101015101115100021030a2049200029 rfl g1 hc) (λq' c d=>?_))⟩;have:=g2 q' c d;have:=cm q';have:=full q' (AQ 0x111310002102029200029 rfl z c) d;exact Lz 0x1100101081001011711001011810010107100020030a20494020291030a4049 rfl hc (by assumption) (by assumption)
 have near:∀x∈Az,x.2<=(p:Int)-q0:=λx hx=>by
  (refine AI ((R.2 x).mp hx) λq A2=>?_;refine Cu A2 λa b e g1 g2=>?_);refine AD e ?_;show(p:Int)-q<=_;rcases Mr q q0 with z|z
  ·have:=g2 q0 z h1;have:=cm q0;have:=D9 (o:=o) (lim:=L) (p:=p) (q:=q);exact l70 0x10104110010072080084108008414030096040a5049305029124036049 rfl c0 (by assumption) (by assumption) this
  ·exact AQ 0x112208008410800841102009 rfl z
 unfold Jx;rcases QB Az with rfl|⟨dd,z,rfl⟩
 ·simp only[List.getLast?_nil];refine⟨XU _ _,λx=>?_⟩;rw[D7,key];exact⟨λe=>.inl e,λh=>h.elim id λh=>by have:=(R.2 x).mpr h.1;cases this⟩
 ·rw[Ml]at*;have asc:=Ti.mp R.1;simp only[List.getLast?_append,List.getLast?_singleton,Option.some_or];by_cases hz:z.2=(p:Int)-q0
  ·refine AD (if_pos hz)<|AD List.dropLast_concat ?_
   refine⟨Ti.mpr (AO asc.1 (XU _ _) (λa Uk b hb=>?_)),λx=>?_⟩
   ·have:=asc.2.2 a Uk z (.head _);refine AD (D7.mp hb) ?_;simp only;exact D0 0x11014108008401311013910800841159 rfl hz this
   ·rw[DX,D7,key,<-R.2,DX,D7];constructor
    ·rintro(h|h)
     ·have:=asc.2.2 x h z (.head _);exact .inr ⟨.inl h,by exact D0 0x1010151080084015611013910800841159 rfl hz this⟩
     ·exact .inl h
    ·rintro(h|⟨h|h,Ce⟩)
     ·exact .inr h
     ·exact .inl h
     ·(try clear asc;subst h);exact absurd hz Ce
  ·refine AD (if_neg hz)<|⟨Ti.mpr (AO R.1 (XU _ _) (λa Uk b hb=>?_)),λx=>?_⟩
   ·have h1:=near a Uk;have h2:=near z (by simp);have h3:a.2<=z.2:=by
     rcases DX.mp Uk with h|h
     ·have:=asc.2.2 a h z (.head _);exact Bd 4821427493601593 rfl this
     ·refine AD (D7.mp h) ?_;exact Sq
    refine AD (D7.mp hb) ?_;simp only;exact D0 0x11014112108008401311011910800841119108008411569 rfl hz h2 h3
   ·rw[DX,D7,key,<-R.2];constructor
    ·rintro(h|h)
     ·have h2:=near z (by simp);have h3:x.2<=z.2:=by
       rcases DX.mp h with h|h
       ·have:=asc.2.2 x h z (.head _);exact Bd 4821427493601593 rfl this
       ·refine AD (D7.mp h) ?_;exact Sq
      exact .inr ⟨h,by exact D0 0x1010151121080084015611011910800841119108008411569 rfl hz h2 h3⟩
     ·exact .inl h
    ·rintro(h|⟨h,_⟩)
     ·exact .inr h
     ·exact .inl h
theorem AR1{lo}(R:Recs o p L wi lo Az)(h:L<=L')(hn:∀q,q<p->(p:Int)-q<=wi->cL o L' p q<=L):Recs o p L' wi lo Az:=by
 have cm:∀q,q<p->(p:Int)-q<=wi->cL o L p q=cL o L' p q:=λq a b=>by have:=gi (o:=o) (p:=p) (q:=q) h;have:=hn q a b;exact rX (by assumption) this
 refine⟨R.1,λx=>(R.2 x).trans ⟨?_,?_⟩⟩
 ·intro KA;(refine AI KA λq BC=>?_;refine Cu BC λa b e g1 g2=>?_);exact⟨q,(An a b (by rw[e,cm q a b]) (by rw[<-cm q a b];exact g1) (λq' c d=>by rw[<-cm q' d (Wm b c),<-cm q a b];exact g2 q' c d))⟩
 ·intro Sk;(refine AI Sk λq BM=>?_;refine Cu BM λa b e g1 g2=>?_);exact⟨q,(An a b (by rw[e,cm q a b]) (by rw[cm q a b];exact g1) (λq' c d=>by rw[cm q' d (Wm b c),cm q a b];exact g2 q' c d))⟩
theorem oM(h:a<b):BP a b=a::BP (a+1) b:=by
 unfold BP;obtain⟨n,hn⟩:∃n:Nat,(b-a).toNat=n+1:=⟨(b-a).toNat-1,by exact rG h⟩;refine AD hn<|AD (show(b-(a+1)).toNat=n by exact rH hn)<|AD tn<|AG By<|AD Fd ?_
 refine congr (congrArg _ (by simp)) (OA λk Z=>?_);simp only[sQ];exact Bp 0x11110081201331200380135 rfl
theorem Vi(h:b<=a):BP a b=[]:=by
 unfold BP;refine AD (show(b-a).toNat=0 by exact Bd 0x1003100311031013021101494110119 rfl h) ?_;rfl
theorem oX{AF:List Int}{pl lim lo:Nat}{wi:Int}(hl:pl+lim<=AF.length):∀(n L:Nat)(Az:List (Int×Int))(bk:Int),lim-L=n->L<=lim->lo<=L->Recs AF pl L wi lo Az->1<=bk->
 (∀q:Nat,q<pl->(pl:Int)-q<bk->¬Bn AF pl q (L+1))->Recs AF pl lim wi lo (JB AF pl wi (BP ((L:Int)+1) ((lim:Int)+1)) Az bk)
 |0,L,Az,bk,hn,hL,Ca,R,hb,hf=>by
  have:L=lim:=by exact rE hn hL
  (try clear hL;subst this);refine AD (Vi (Ah 76877888198019121 (by kernel_rfl)))<|R
 |n+1,L,Az,bk,hn,hL,Ca,R,hb,hf=>by
  refine AD (oM (by exact AQ 1461523976528097188902473104694947085493515387977 (by kernel_rfl) hn)) ?_;simp only[aW];have e1:((L:Int)+1)=((L+1:Nat):Int):=by exact Ah 19676543446381758517 (by kernel_rfl)
  refine AD e1 ?_;have B:=gS (AF:=AF) (pl:=pl) (wi:=wi) (len:=L+1) (by exact Lz 6582018621663919882150776522988570113287714006878624589790839561 (by kernel_rfl) hl hn) (pl+1) bk hb (by exact Bp 84820654388905446845897052697 (by kernel_rfl) hb);generalize Fw AF pl wi ((L+1:Nat):Int) (pl+1) bk=BB at B;by_cases hg:min (pl:Int) wi<BB
  ·refine AD (if_pos hg)<|AR1 R (hL) λq a b=>?_
   by_cases z:L+1<=cL AF lim pl q
   ·exfalso;have ag:Bn AF pl q (L+1):=EH.mono z;by_cases y:(pl:Int)-q<bk
    ·exact hf q a y ag
    ·exact B.2.1 q a b (Bm 0x1121080084011011080084369 rfl y) (D0 0x1110410101060110800843111080084190111008a39 rfl hg b) ag
   ·exact AM 0x112100000012103069 rfl z
  ·refine AD (if_neg hg) ?_;(refine AI (B.2.2 (Dv 0x1010410114101141010411008a0110111008a369 rfl hg)) λq0 Bx=>?_;obtain a0:=Bx.1;obtain b0:=Bx.2.1;obtain c0:=Bx.2.2);refine AD (A0 b0) ?_;have m5:∀q:Nat,q<pl->(pl:Int)-q<(pl:Int)-q0->¬Bn AF pl q (L+1):=λq a b=>by
    by_cases y:(pl:Int)-q<bk
    ·exact hf q a y
    ·exact B.2.1 q a (Jo 0x110110610100001801108008412080084108008439112080084591101008a369 rfl hg b0 b) (Bm 0x1121080084011011080084369 rfl y) (Cn 0x110140110800843208008410800843901208008459 rfl b0 b)
   exact oX hl n (L+1) _ _ (rF hn) (AQ 0x100010071001100710120030122030010449 rfl hn) (HP Ca) (AQ3 R Ca a0 (D0 0x101105101000170110800841111080084591101008a369 rfl hg b0) c0 λq x y=>m5 q y (AQ 0x112208008410800843102029 rfl x)) (AM 0x1121080084121001029 rfl a0) λq a b ag=>m5 q a b (ag.mono (Ah 0x1112120033120030 rfl))
theorem oY(hp:pl<=AF.length)(h2:2<=mo):
 JB AF pl wi (BP (max 2 le) (min mo ((AF.length:Int)-pl)+1)) [] 1=RL AF wi mo (max le 2) pl:=by
 obtain em:max 2 le=max le 2:=by exact Aw 0x101311031003100310031003101311032201b0122b5 rfl
 refine AD em ?_;generalize HC:(min mo (AF.length-(pl:Int))).toNat=lim;obtain⟨lo,Ca⟩:∃n:Nat,max le 2=n+1:=⟨(max le 2-1).toNat,by exact Aw 0x101310131000410004100310031001410104100041103100141010410031003100041000412122201b49832201b5 rfl⟩;have R:Recs AF pl lim wi lo (JB AF pl wi (BP ((lo:Int)+1) ((lim:Int)+1)) [] 1):=by
  by_cases z:lo<=lim
  ·exact oX (Cn 0x11000161100006110001611001062010003010008208401a949200009 rfl hp HC) (lim-lo) lo [] 1 rfl z (BX _) (VM (BX _)) (EJ 17899809 rfl) λq a b=>by exact C5 (AM 0x112a12108008439001029 rfl a b)
  ·refine AD (Vi (AM 0x11212108312008310010069 rfl z))<|VM (AM 77141735804829801 rfl z)
 unfold RL;refine AD HC<|AD (show(max le 2-1).toNat=lo by exact Bp 0x100015110000071001006100010610000510000510110061000116110005110005101100610001161000051000051001006100010600122201b4941200832201b59 rfl Ca) ?_
 obtain e2:min mo ((AF.length:Int)-pl)+1=(lim:Int)+1:=by exact Cn 0x101000018100110008101000108100101071010000081001000081010010081101000081010410104101041010410100100811010000810100000810010000812208312108008401a3520108008401a949012219001009 rfl hp h2 HC
 refine AD e2<|AD Ca ?_
 exact R.unique IQ
theorem gQ:∀(l:List (Int×Int))(n:Nat)(a:Int),Gw l->(∀x∈l,a<x.2/\x.2<=a+n)->l.length<=n
 |[],n,a,_,_=>JX _
 |x::l,n,a,h,hb=>by
  obtain h1:=OC.mp h;obtain hx:=hb x (.head _);obtain⟨k,rfl⟩:∃k,n=k+1:=⟨n-1,by exact Dv 0x10114110041000410004121200430040080131111101379 rfl hx⟩;obtain this:=gQ l k x.2 h1.2 λy hy=>⟨h1.1 y hy,by obtain this:=(hb y (.tail _ hy)).2;exact RQ 0x1101400811301112003821301191200382131111121379 rfl hx this⟩;simp only[KQ];exact c9 this
theorem AS3(h2:2<=mo)(ht:AF.length<=12)(hp:p<AF.length):(ED AF le wi mo p).length<=12/\∀x∈ED AF le wi mo p,0<=x.1/\x.1<=12:=by
 unfold ED;refine AD (oY (DH hp) h2) ?_;obtain hs:2<=max le 2:=by exact Nx
 refine⟨?_,λx hx=>?_⟩
 ·refine Ek (gQ _ p 0 IQ.1 λx hx=>?_) (AM 0x1113c2000100029c21009 rfl ht hp);(refine AI (Xa hs hx (DH hp)) λq AR=>?_;obtain h1:=AR.1;obtain h2:=AR.2.1);exact Bm 0x10101061101400802301101023710800840159001029 rfl h1 h2
 ·(refine AI (Xa hs hx (DH hp)) λq Af=>?_;obtain h1:=Af.1;obtain h2:=Af.2.1;obtain h3:=Af.2.2.1;obtain h4:=Af.2.2.2.1;obtain h5:=Af.2.2.2.2.1;obtain h6:=Af.2.2.2.2.2.1);exact D0 0x11100161011051110016101005c201101021710801008319012211b19c21009 rfl ht h5 h6
noncomputable def Ju(o:Option Int)(v:Int):Option Int:=some (min v (o.getD v))
theorem YC{c:Int×Int->Int}:∀(l:List (Int×Int))(x:Int×Int),l.foldl (λo s=>Ju o (c s)) (some (c x))=some (c (G_ c x l))
 |[],x=>rfl
 |y::l,x=>by
  unfold G_;simp only[DW];by_cases h:c y<c x
  ·refine AD (if_pos h) ?_;obtain e:Ju (some (c x)) (c y)=some (c y):=by simp only[Ju,fi];congr 1;exact Bd 0x11211210031003011101a5110139 rfl h
   refine AD e ?_;exact YC l y
  ·refine AD (if_neg h) ?_;obtain e:Ju (some (c x)) (c y)=some (c x):=by simp only[Ju,fi];congr 1;exact Bd 0x1003100310131103111101a51101369 rfl h
   refine AD e ?_;exact YC l x
theorem yE{c:Int×Int->Int}:∀(l:List (Int×Int)),l.foldl (λo s=>Ju o (c s)) none=(fmin c l).map c
 |[]=>rfl
 |x::l=>by
  simp only[DW,fmin,fj];obtain e:Ju none (c x)=some (c x):=by simp[Ju]
  refine AD e ?_;exact YC l x
noncomputable def LX(c:Int×Int->Int)(p:Nat)(E:C6)(s:Int×Int):C6:=dput E ((p:Int),(p:Int)+BH s.1) (min (c s) ((Ak E ((p:Int),(p:Int)+BH s.1)).getD (c s)))
theorem iS:∀(l:List (Int×Int))(E:C6)(a g:Nat),Ak (l.foldl (LX c p) E) ((a:Int),(g:Int))=
 if a=p then(l.filter λs=>decide ((g:Int)=p+BH s.1)).foldl (λo s=>Ju o (c s)) (Ak E ((a:Int),(g:Int)))else Ak E ((a:Int),(g:Int))
 |[],E,a,g=>by simp
 |s::l,E,a,g=>by
  (refine AD DW ?_;rw[iS l]);by_cases ha:a=p
  ·subst ha;refine AG (if_pos rfl)<|AD (if_pos rfl)<|AD H2 ?_
   by_cases hg:(g:Int)=a+BH s.1
   ·refine AD (if_pos (decide_eq_true hg))<|AD DW ?_
    congr 1;unfold LX Ju
    rw[OQ,<-hg,if_pos rfl]
   ·refine AD (if_neg (by simpa using hg)) ?_;congr 1;unfold LX;rw[OQ,if_neg (λz=>hg (by injection z with _ z;exact z.symm))]
  ·refine AG (if_neg ha)<|AD (if_neg ha) ?_
   unfold LX;rw[OQ,if_neg (λz=>ha (by injection z with z _;exact AM 0x101311031000400810859 rfl z))]
theorem YF{α β:Type}{f g}:∀{l:List α}{b:β},(∀b,∀x∈l,f b x=g b x)->l.foldl f b=l.foldl g b
 |[],_,_=>rfl
 |x::l,b,h=>by
  refine AG DW<|AG DW<|AD (h b x (.head _)) ?_
  exact YF λb y hy=>h b y (.tail _ hy)
theorem AQ1{lit AH}{AF:List Int}{sh:Int}{R}{E:C6}{p:Nat}(Fg:2<=sh)(hn:Ak E ((p:Int),(p:Int)+1)=none):
 OU lit AH AF sh R E p=(opts AF sh R p).foldl (LX (costOf lit AH) p) E:=by
 unfold OU opts;rw[DW,tT];have e:LX (costOf lit AH) p E (0,AF.getD p 0)=dput E ((p:Int),(p:Int)+1) (lit (AF.getD p 0)):=by
  unfold LX;have e1:BH (0,AF.getD p 0).1=1:=rfl;rw[e1,hn];simp[costOf]
 rw[e];refine YF λb x hx=>?_;unfold OV;rw[tU];refine YF λb y hy=>?_;obtain U1:=MG.mp hy;unfold Ql LX;obtain e1:BH (y,x.2).1=y:=by unfold BH;rw[if_neg (by simp only;exact DR 0x10114020156122130130111179112219 rfl Fg U1)]
 obtain e2:costOf lit AH (y,x.2)=AH y x.2:=by unfold costOf;rw[if_neg (by simp only;exact DR 0x10114020156122130130111179112219 rfl Fg U1)]
 rw[e1,e2]
theorem iT{AF:List Int}{le wi mo:Int}{start:Nat}(h2:2<=mo):∀k,k<=AF.length-start->∀a g:Nat,
 Ak ((EV k).foldl (λE k=>OU lit AH AF (max 2 le) (ED AF le wi mo) E (start+k)) []) ((a:Int),(g:Int))=
  if start<=a/\a<start+k then(GT (costOf lit AH) AF AF le wi mo a g).map (costOf lit AH)else none
 |0,_,a,g=>by refine AD (if_neg (by exact AM 315909502829338820726 (by kernel_rfl))) ?_;rfl
 |k+1,hk,a,g=>by
  obtain ih:=iT (lit:=lit) (AH:=AH) (AF:=AF) (le:=le) (wi:=wi) (start:=start) h2 k (by exact AQ 1467301225226112893999587294329637903943260439305 (by kernel_rfl) hk);refine AD tm<|AD TZ<|AD DW<|AD KO ?_
  obtain hn:=ih (start+k) (start+k+1);rw[if_neg (by exact AM 4991654765682012632401313910 (by kernel_rfl)),s7 (start+k) 1]at hn;refine AD (AQ1 (by exact Aw 4539960839549473 (by kernel_rfl)) hn)<|AG (iS ..)<|AD (ih a g) ?_
  by_cases ha:a=start+k
  ·subst ha;refine AG (if_pos rfl)<|AD (if_neg (by exact AM 4991654765682012632401313910 (by kernel_rfl)))<|AD (if_pos (by exact AM 5537192254633624213540480487718919 (by kernel_rfl)))<|AG (yE ..) ?_
   unfold GT HA;obtain er:ED AF le wi mo (start+k)=RL AF wi mo (max le 2) (start+k):=by unfold ED;exact oY (by exact AQ 83097433551996820359177857497367305 (by kernel_rfl) hk) h2
   obtain em:max 2 le=max le 2:=by exact Aw 375886022422302738426903472767763598109434070508213 (by kernel_rfl)
   unfold opts;rw[er,em]
  ·apply AG (if_neg ha);by_cases hb:start<=a/\a<start+k
   ·rw[if_pos hb,if_pos (by exact AQ 97121145625633974665103922600651434251503272057 (by kernel_rfl) hb)]
   ·rw[if_neg hb,if_neg (by exact AQ 1891537140634864225169476900198976100862304656152189680348663469042631785 (by kernel_rfl) ha hb)]
theorem xD{AF:List Int}{le wi mo:Int}{start a g:Nat}(h2:2<=mo)(h0:start<=a)(h1:a<AF.length):
 Ak (H_ lit AH AF (max 2 le) (ED AF le wi mo) start) ((a:Int),(g:Int))=(GT (costOf lit AH) AF AF le wi mo a g).map (costOf lit AH):=by
 unfold H_;rw[iT h2 _ (BX _),if_pos (by exact AQ 24954356887110686307545068624513592324367148122121 (by kernel_rfl) h0 h1)]
theorem Z4{P:Nat->Prop}(f:Nat->Int):∀k,(∃i,i<k/\P i)->∃i,i<k/\P i/\∀j,j<k->P j->f i<=f j
 |0,⟨i,h,_⟩=>by exact C5 (Ah 73719218217 rfl h)
 |k+1,h=>by
  by_cases hk:∃i,i<k/\P i
  ·(refine AI (Z4 f k hk) λi AR=>?_;obtain h1:=AR.1;obtain h2:=AR.2.1;obtain h3:=AR.2.2);by_cases hp:P k/\f k<f i
   ·refine⟨k,(AO Ie hp.1 (λj hj pj=>?_))⟩;by_cases e:j=k
    ·subst e;exact Sq
    ·have:=h3 j (Ws hj e) pj;exact DR 0x111311011112119210139 rfl hp.2 this
   ·refine⟨i,(AO (Ib h1) h2 (λj hj pj=>?_))⟩;by_cases e:j=k
    ·subst e;by_cases q:f j<f i
     ·exact absurd ⟨pj,q⟩ hp
     ·exact Bd 77142839880913769 rfl q
    ·exact h3 j (Ws hj e) pj
  ·(refine AI h λi Af=>?_;obtain h1:=Af.1;obtain h2:=Af.2);have e:i=k:=by
    by_cases e:i=k
    ·exact e
    ·exact absurd ⟨i,⟨(Ws h1 e),h2⟩⟩ hk
   subst e;refine⟨i,(AO (h1) h2 (λj hj pj=>?_))⟩;by_cases e:j=i
   ·subst e;exact Sq
   ·exact absurd ⟨j,⟨(Ws hj e),pj⟩⟩ hk
theorem Path.self(g:Cz G):∀{l:List (Int×Int)},Path G p l p->l=[]
 |[],_=>rfl
 |st::l,⟨m,h,k⟩=>by
  obtain h1:=Path.le g k;obtain h2:=g _ _ _ h;exact C5 (Bm 0x112a01008310851000279001009 rfl h1 h2)
theorem AO7{c:Int×Int->Int}{n p:Nat}(g0:Cz G)(hl:∀i,i<n->∃st,G i (i+1)=some st):∀g,p<=g->g<=n->∃l,DK G c p l g:=by
 intro g;induction g using uN with
 |ind g ih=>
  intro h1 h2;by_cases e:p=g
  ·(try clear h2;subst e);exact⟨([]),⟨rfl,(λl' h=>by refine AD (Path.self g0 h) ?_;exact FY _)⟩⟩
  ·have H:∀i,∃l,(p<=i/\i<g->DK G c p l i):=λi=>by
    by_cases hi:p<=i/\i<g
    ·obtain⟨l,hl⟩:=ih i hi.2 hi.1 (CM 0x1101410000300020020079103009 rfl h2 hi);exact⟨l,λZ=>hl⟩
    ·exact⟨[],λz=>absurd z hi⟩
   let L:Nat->List (Int×Int):=λi=>r_ (H i);have hL:∀i,p<=i->i<g->DK G c p (L i) i:=λi a b=>eU (H i) ⟨a,b⟩;obtain⟨st0,lC⟩:=hl (g-1) (AQ 0x1001011081001051013100105101200420020469100009002009 rfl h1 h2 e);have e1:g-1+1=g:=by exact AM 0x11004101010610004100041121121000410004001212004340010469001009 rfl h1 e
   rw[e1]at lC;(refine AI (Z4 (P:=λi=>p<=i/\∃st,G i g=some st) (λi=>CJ c (L i)+c ((G i g).getD (0,0))) g ⟨(g-1),(AO (Ah 0x10010510000510001510000500120042001212004349 rfl e1) (AM 0x1110410104112112121040001000469100009 rfl h1 e) ⟨st0,lC⟩)⟩) λi AX=>?_;refine DF AX λi1 cW i4=>?_;obtain⟨i2,st,i3⟩:=cW);refine⟨(L i++[st]),⟨(Path.snoc.mpr ⟨i,⟨((hL i i2 i1).1),i3⟩⟩),(λl' hp=>?_)⟩⟩;rcases snoc_cases l' with rfl|⟨a,CA,rfl⟩
   ·exact absurd (show p=g from hp) e
   ·(refine AI (Path.snoc.mp hp) λj Ai=>?_;refine BQ Ai λj1 j2=>?_);have jg:=(g0 _ _ _ j2).1;have jp:=Path.le g0 j1;have q1:=i4 j jg ⟨jp,⟨CA,j2⟩⟩;obtain q2:=(hL j jp jg).2 a j1;simp only[i3,j2,fi]at q1;refine AD GY<|AD GY<|AD Pb<|AD Pb ?_
    exact Lx 0x111331213110131314131101319214119 rfl q2 q1
structure F_(G:Gr)(c:Int×Int->Int)(n:Nat)(D:Nat->Nat->Int):Prop where
 zero:∀p,D p p=0
 opt:∀p g,p<=g->g<=n->∃l,DK G c p l g/\CJ c l=D p g
theorem w0(g0:Cz G)(hl:∀i,i<n->∃st,G i (i+1)=some st):∃D,F_ G c n D:=by
 have H:∀p g,∃v:Int,(p=g->v=0)/\(p<=g->g<=n->∃l,DK G c p l g/\CJ c l=v):=λp g=>by
  by_cases h:p<=g/\g<=n
  ·obtain⟨l,hl⟩:=AO7 (c:=c) (p:=p) g0 hl g h.1 h.2;refine⟨(CJ c l),⟨(λe=>?_),(λZ Z=>⟨l,⟨hl,rfl⟩⟩)⟩⟩
   (try clear h;subst e)
   refine AD (Path.self g0 hl.1) ?_;rfl
  ·exact⟨0,⟨(λZ=>rfl),(λa b=>absurd ⟨a,b⟩ h)⟩⟩
 exact⟨λp g=>r_ (H p g),λp=>(eU (H p p)).1 rfl,λp g=>(eU (H p g)).2⟩
section
variable{G:Gr}{c:Int×Int->Int}{n:Nat}{D:Nat->Nat->Int}
theorem F_.le(d:F_ G c n D)(h:Path G p l g)(h1:p<=g)(h2:g<=n):D p g<=CJ c l:=by
 (refine AI (d.opt p g h1 h2) λm A5=>?_;obtain hm:=A5.1;obtain e:=A5.2)
 refine AD (A0 e) ?_;exact hm.2 l h
theorem F_.eq(d:F_ G c n D)(h:DK G c p l g)(h1:p<=g)(h2:g<=n):CJ c l=D p g:=by
 (refine AI (d.opt p g h1 h2) λm A6=>?_;obtain hm:=A6.1;obtain e:=A6.2)
 obtain this:=hm.2 l h.1;obtain this:=h.2 m hm.1;exact DR 0x10110511001511015210119012119112159 rfl e (by assumption) this
theorem F_.J2(d:F_ G c n D)(h1:p<=m)(h2:m<=g)(h3:g<=n):D p g<=D p m+D m g:=by
 (refine AI (d.opt p m h1 (Wt h2 h3)) λa A2=>?_;obtain ha:=A2.1;obtain ea:=A2.2)
 (refine AI (d.opt m g h2 h3) λb BC=>?_;obtain hb:=BC.1;obtain eb:=BC.2);obtain this:=d.le (Path.append.mpr ⟨m,⟨ha.1,hb.1⟩⟩) (Wt h1 h2) h3;rw[GY]at this;exact Lx 0x110101621113011413130119214159113159 rfl ea eb this
theorem F_.Qk{st}(d:F_ G c n D)(g0:Cz G)(h:G p g=some st)(h3:g<=n):D p g<=c st:=by
 obtain this:=d.le (l:=[st]) ⟨g,⟨h,rfl⟩⟩ (by obtain this:=g0 _ _ _ h;exact Bm 0x100141000001008310851000279 rfl this) h3;rwa[Pb]at this
theorem F_.split(d:F_ G c n D)(g0:Cz G)(h1:p<g)(h3:g<=n):∃m st,p<=m/\m<g/\G m g=some st/\D p g=D p m+c st:=by
 (refine AI (d.opt p g (DH h1) h3) λl BM=>?_;obtain hl:=BM.1;obtain e:=BM.2)
 rcases snoc_cases l with rfl|⟨a,st,rfl⟩
 ·obtain this:=hl.1;exact C5 (AM 0x1013a100049100029 rfl h1 this)
 ·(refine AI (Path.snoc.mp hl.1) λm Bx=>?_;obtain j1:=Bx.1;obtain j2:=Bx.2);obtain jg:=(g0 _ _ _ j2).1;obtain jp:=Path.le g0 j1;refine(Aj m st (BR jp jg j2 ?_));obtain q1:=d.le j1 jp (Wq h3 jg);obtain q2:=d.Qk g0 j2 h3;obtain q3:=d.J2 jp (DH jg:m<=g) h3;rw[GY,Pb]at e;(refine AI (d.opt p m jp (Wq h3 jg)) λb CB=>?_;obtain hb:=CB.1;obtain eb:=CB.2);obtain this:=hl.2 (b++[st]) (Path.snoc.mpr ⟨m,⟨hb.1,j2⟩⟩);rw[GY,GY,Pb]at this;exact Lx 0x100010171101010721113015214132131319114159311119012131359 rfl e q1 eb this
end
section
variable{G:Gr}{c:Int×Int->Int}{n start:Nat}{D:Nat->Nat->Int}{E:C6}
theorem wj(g0:Cz G)(d:F_ G c n D)(hE:∀a g:Nat,start<=a->a<n->Ak E ((a:Int),(g:Int))=(G a g).map c):W6 D E start n:=by
 refine⟨d.zero,λp g h1 h2 h3=>?_,λp g h1 h2 h3 y hy=>?_⟩
 ·(refine Ao (d.split g0 h2 h3) λm st Af=>?_;refine G5 Af λa1 a2 a3 a4=>?_);unfold Qe;by_cases e:m=p
  ·(try clear a1;subst e);refine AD (hE m g h1 (Pz h3 a2))<|AD a3 ?_
   rw[d.zero,fB]at a4;exact DX.mpr (.inr (by simp[a4]))
  ·obtain q1:=d.J2 a1 (DH a2:m<=g) h3;obtain q2:=d.Qk g0 a3 h3;refine DX.mpr (.inl (DJ.mpr ⟨(m-p-1),⟨(JV.mpr (AQ 0x1013100000071013101310000510000510000510000510131000000710131013101310000007101310000010810001161000000711004110041000051000051000051000051000116100000071000110710000110810001161000000710001107100000108121020441210004421000469200029001009 rfl a1 a2 e)),?_⟩⟩));refine AD (show p+1+(m-p-1)=m by exact AM 0x1121121000410004112112100005100005110311031000410004110005100105100005100005101200104412003340010469100009 rfl a1 e)<|IL 0x10100511010521110135311119110132119310132159 rfl a4 q1 q2
 ·unfold Qe at hy;rcases DX.mp hy with hy|hy
  ·(refine AI (DJ.mp hy) λk AX=>?_;refine BQ AX λhk Cs=>?_;(try clear hy;subst Cs));obtain this:=JV.mp hk;exact d.J2 (AM 72392949916446720 rfl) (AQ 0x100100610210010061100420101200330120020441029 rfl this) h3
  ·rw[hE p g h1 (c8 h2 h3)]at hy;cases e:G p g with
   |none=>rw[e]at hy;cases hy
   |some st=>
    rw[e]at hy;simp only[fj,D7]at hy;refine AD hy ?_;exact d.Qk g0 e h3
theorem oG(g0:Cz G)(d:F_ G c n D)(hE:∀a g:Nat,start<=a->a<n->Ak E ((a:Int),(g:Int))=(G a g).map c)(hs:start<=n):∀k,k<=n-start->∀x,
 x∈(EV k).foldl (λF k=>MF E D n F (start+1+k)) [start]↔start<=x/\x<=start+k/\D start x+D x n=D start n
 |0,_,x=>by
  simp only[List.range_zero,KO,D7];constructor
  ·rintro rfl;obtain this:=d.zero x;exact Dv 0x110310131003100311110135020030007000007020159 rfl this
  ·exact O7 0x10001510010500104211101350200310071000079 rfl
 |k+1,hk,x=>by
  obtain ih:=oG g0 d hE hs k (AQ 0x10104100105111041010420104000201041200309 rfl hk);refine AD tm<|AD TZ<|AD DW<|AD KO ?_
  generalize (EV k).foldl (λF k=>MF E D n F (start+1+k)) [start]=F at ih|-;have key:F.any (Eu E D n (start+1+k))=true↔D start (start+1+k)+D (start+1+k) n=D start n:=by
   rw[tK];constructor
   ·intro Dh;(refine AI Dh λm Ai=>?_;obtain hm:=Ai.1;obtain ho:=Ai.2);(obtain cS:=((ih m).mp hm);obtain m1:=cS.1;obtain m2:=cS.2.1;obtain m3:=cS.2.2);unfold Eu at ho;rw[hE m _ m1 (CM 0x1000001081110410002302030009201041230309 rfl hk m2)]at ho;cases e:G m (start+1+k)with
    |none=>rw[e]at ho;exact fT ho
    |some st=>
     rw[e]at ho;obtain ho:=of_decide_eq_true ho;obtain q1:=d.Qk g0 e (P0 hk);obtain q2:=d.J2 m1 (AQ 0x11220121033000201030009 rfl m2:m<=start+1+k) (P0 hk);obtain q3:=d.J2 (AM 72392949916446720 rfl:start<=start+1+k) (P0 hk:start+1+k<=n) (BX _);exact Za 0x11000000810110101821110135110132119413130119514119611151359216131359 rfl m3 ho q1 q2 q3
   ·intro h;(refine Ao (d.split g0 (show start<start+1+k by exact AM 72392949916446722 rfl) (P0 hk)) λm st A5=>?_;obtain a1:=A5.1;obtain a2:=A5.2.1;obtain a3:=A5.2.2.1;obtain a4:=A5.2.2.2);obtain q1:=d.Qk g0 a3 (P0 hk);obtain q2:=d.J2 (AQ 0x11220121033000201210330029 rfl a2:m<=start+1+k) (P0 hk:start+1+k<=n) (BX _);obtain q3:=d.J2 a1 (CM 0x1000001081110410000301220330029201041230309 rfl hk a2:m<=n) (BX _);refine⟨m,⟨((ih m).mpr (AO a1 (AQ 0x11220103000201210330029 rfl a2) (Za 0x11000000810111001821110135110132119413131119513119510136159214161359 rfl h a4 q1 q2 q3))),?_⟩⟩;unfold Eu;refine AD (hE m _ a1 (CM 0x1000001081110410002301220330029201041230309 rfl hk a2))<|AD a3 ?_
    exact decide_eq_true (Za 0x10110000811001001821110135214133119115132119015119014136159311161359 rfl h a4 q1 q2 q3)
  unfold MF;by_cases Ol:F.any (Eu E D n (start+1+k))=true
  ·(refine AD (if_pos Ol) ?_;rw[DX,D7,ih x]);obtain this:=key.mp Ol;constructor
   ·rintro(h|rfl)
    ·exact rY h
    ·exact(AO (AM 72392949916446720 rfl) (AM 0x1112103003101200330 rfl) this)
   ·intro h;by_cases e:x=start+1+k
    ·exact .inr e
    ·exact .inl (AO h.1 (VD 0x1100006100105201030002012103300469211101351220310300070010079 rfl h e) h.2.2)
  ·(refine AD (if_neg Ol) ?_;rw[ih x]);constructor
   ·intro h;exact rY h
   ·intro h;obtain this:x≠start+1+k:=λz=>Ol (key.mpr (z▸h.2.2));exact VD 0x101000610010061100006100001610100061001006100105100105211101352000310071000072012003310469211101351220300310071000079 rfl h this
theorem Vf(g0:Cz G)(d:F_ G c n D)(hE:∀a g:Nat,start<=a->a<n->Ak E ((a:Int),(g:Int))=(G a g).map c)(hs:start<=n):x∈reachF E D start n↔start<=x/\x<=n/\D start x+D x n=D start n:=by
 obtain this:=oG g0 d hE hs (n-start) (BX _) x;rw[show start+(n-start)=n by exact We hs]at this;exact this
theorem AQ8{start}:(reachF E D start en).length<=en-start+1:=by
 unfold reachF;obtain H:∀(l:List Nat)(F:List Nat),(l.foldl (λF k=>MF E D en F (start+1+k)) F).length<=F.length+l.length:=λl=>by
  induction l with
  |nil=>intro F;simp
  |cons a l ih=>
   intro F;refine AD DW<|Ek (ih _) ?_
   unfold MF;split<;>simp<;>exact AM 0x1112103003101200330 rfl
 obtain this:=H (EV (en-start)) [start];simp at this;exact AQ 0x1010411104111041010412201043000201041230009 rfl this
end
theorem Path.len(g:Cz G):∀{l:List (Int×Int)}{i j:Nat},Path G i l j->i+l.length<=j
 |[],i,j,h=>by cases h;exact BX _
 |st::l,i,j,⟨m,h,k⟩=>by
  obtain this:=(g _ _ _ h).1;obtain this:=Path.len g k;simp only[KQ];exact CM 0x111320121030030201030309300029 rfl (by assumption) this
theorem DK.take(h:DK G c s l e)(p1:Path G s (l.take k) m)(p2:Path G m (l.drop k) e):DK G c s (l.take k) m:=
 DK.mid (l1:=[]) (l2:=l.take k) (l3:=l.drop k) (i:=s) (by rw[Th,QH];exact h) rfl p1 p2
theorem DK.drop(h:DK G c s l e)(p1:Path G s (l.take k) m)(p2:Path G m (l.drop k) e):DK G c m (l.drop k) e:=
 DK.mid (l1:=l.take k) (l2:=l.drop k) (l3:=[]) (by rw[HS,QH];exact h) p1 p2 rfl
theorem PC(g0:Cz G)(h:DK G c s l e)(hs:∀i j st,G i j=some st->j<=e->BH st.1=max 1 st.1)(hk:k<=l.length):
 ∃m:Nat,(Eg l s)[k]? =some (m:Int)/\s<=m/\m<=e/\DK G c s (l.take k) m/\DK G c m (l.drop k) e:=by
 (refine AI (mU g0 l s e h.1 hs k hk) λm AR=>?_;obtain h1:=AR.1;obtain h2:=AR.2.1;obtain h3:=AR.2.2);exact⟨m,(An h1 (Path.le g0 h2) (Path.le g0 h3) (h.take h2 h3) (h.drop h2 h3))⟩
theorem AA3{c AF AP le wi mo s place}:Alike (GT c AF AP le wi mo) (GT c (AF.take place) AP le wi mo) 0 s place:=λi j h1 h2=>by
 by_cases Gk:i<j
 ·show HA _ _ _ _ _ _=HA _ _ _ _ _ _;unfold HA opts;have:(AF.take place).getD i 0=AF.getD i 0:=by
   rw[Mm,Mm,XM,if_pos (by exact AQ 1290109940881159925800969 (by kernel_rfl) h2 Gk)]
  refine AD this ?_;rfl
 ·obtain no:∀t,GT c t AP le wi mo i j=none:=λt=>by
   cases e:GT c t AP le wi mo i j with
   |none=>rfl
   |some st=>obtain this:=(ET _ _ _ e).1;exact C5 (AM 0x112a1000291000269 rfl Gk this)
  refine AG (no ..)<|(no _).symm
theorem mV(g0:Cz G)(hs:∀i j st,G i j=some st->j<=e->BH st.1=max 1 st.1):∀(a b:List (Int×Int))(s:Nat){m:Nat},Path G s a m->m<=e->(m:Int)∈Eg (a++b) s
 |[],b,s,m,h,_=>by
  have e:s=m:=h;(try clear h;subst e);cases b<;>simp[PA]
 |st::a,b,s,m,⟨k,h1,h2⟩,he=>by
  obtain e1:=hs _ _ _ h1 (by obtain this:=Path.le g0 h2;exact Wo he this);obtain e2:=(g0 _ _ _ h1).2;obtain this:=mV g0 hs a b k h2 he;simp only[GD,PA];refine AD (show(s:Int)+max 1 st.1=k by exact D0 0x10010107101010071101010710101017110101071010101710010107101010071080112b00835110083108590112b1159 rfl e1 e2)<|.tail _ this
theorem ZH:∀{l:List Int},a∈l->l[l.idxOf a]? =some a
 |b::l,h=>by
  refine AD List.idxOf_cons ?_;by_cases e:b=a
  ·(try clear h;subst e);simp
  ·obtain this:(b==a)=false:=by simpa using e
   refine AD this ?_;rcases CH.mp h with z|z
   ·exact absurd z.symm e
   ·simpa using ZH z
theorem VX(g0:Cz G):∀{l:List (Int×Int)}{s:Nat},Path G s l e->∀x∈l,x.1<=e
 |[],s,_,x,hx=>by cases hx
 |st::l,s,⟨m,h1,h2⟩,x,hx=>by
  obtain this:=Path.le g0 h2;obtain this:=(g0 _ _ _ h1).2;rcases CH.mp hx with rfl|hx
  ·unfold BH at this;split at this<;>omega
  ·exact VX g0 h2 x hx
theorem oj{AF:List Int}{place:Nat}:A3 AF none (some (place:Int))=AF.take place:=by simp[A3]
theorem M8:∀i j st,GT c AF AF le wi mo i j=some st->j<=AF.length->BH st.1=max 1 st.1:=λi j st h hj=>(pB (Pre.refl (t:=AF)) h hj).2
theorem AD4{AF:List Int}{le wi mo:Int}{steps:List (Int×Int)}{start place:Nat}{E:C6}(T:Txt AF)(hn:AF.length<=20)(H:HV le wi mo)
 (d:F_ (GT (costOf lit AH) AF AF le wi mo) (costOf lit AH) AF.length D) (hE:∀a g:Nat,start<=a->a<AF.length->Ak E ((a:Int),(g:Int))=(GT (costOf lit AH) AF AF le wi mo a g).map (costOf lit AH))
 (Bu:DK (GT (costOf lit AH) AF AF le wi mo) (costOf lit AH) start steps AF.length) (h1:start<=place) (h2:place<=AF.length):
 JoinOk lit AH AF le wi mo steps (Eg steps start) ((reachF E D start AF.length).map λ(n:Nat)=>(n:Int)) start place:=by
 intro Ay HM hw Lr;refine AD oj ?_;have hT:(AF.take place).length=place:=by refine AG Mo ?_;exact dA h2
 have g0:Cz (GT (costOf lit AH) AF AF le wi mo):=ET;have Ut:start<=AF.length:=by exact Wt h1 h2
 refine(AO (SG T (AQ 0x1011410000200049102009 rfl h2 hT) (AQ 0x1101410000201049200009 rfl h1 hT) hw H) (SG T (BX _) h2 Lr H) ?_);have C1:=(Pa (lit:=lit) (AH:=AH) (AF:=AF.take place) (start:=start) T (AQ 0x1011410000200049102009 rfl h2 hT) (AQ 0x1101410000201049200009 rfl h1 hT) hw H).opt ET;have C2:=(Pa (lit:=lit) (AH:=AH) (AF:=AF) (start:=place) T (BX _) h2 Lr H).opt ET;rw[hT]at C1;generalize EN lit AH Ay (AF.take place) AF start le wi mo=l1 at C1|-;generalize EN lit AH HM AF AF place le wi mo=l2 at C2|-;have al:∀l,Path (GT (costOf lit AH) (AF.take place) AF le wi mo) start l place↔Path (GT (costOf lit AH) AF AF le wi mo) start l place:=λl=>Path.alike (d:=0) ET g0 AA3 (BX _);have O1:DK (GT (costOf lit AH) AF AF le wi mo) (costOf lit AH) start l1 place:=⟨(al _).mp C1.1,λl' p=>C1.2 l' ((al _).mpr p)⟩;have P:=Path.append.mpr ⟨place,⟨O1.1,C2.1⟩⟩;obtain e1:=d.eq O1 h1 h2;obtain e2:=d.eq C2 h2 (BX _);obtain e3:=d.eq Bu Ut (BX _);have et:CQ lit AH (l1++l2)=D start place+D place AF.length:=by
  show CJ (costOf lit AH) (l1++l2)=_;rw[GY,e1,e2]
 have es:CQ lit AH steps=D start AF.length:=e3;obtain J2:=d.J2 h1 h2 (BX _);have hb:=UG Pre.refl (l1++l2) start [] P;rw[Th]at hb;have hl:=Path.len g0 P;have rm:∀x:Nat,(x:Int)∈(reachF E D start AF.length).map (λ(n:Nat)=>(n:Int))↔x∈reachF E D start AF.length:=λx=>by
  rw[DJ];constructor
  ·rintro⟨y,hy,e⟩;refine AD (show x=y by exact AM 0x101311031000400810859 rfl e) ?_;exact hy
  ·exact λh=>⟨x,⟨h,rfl⟩⟩
 refine(Cc ?_ (AQ 0x1011153ef8f200020001030914f22009 rfl hn hl) (λx hx=>?_) ?_ (λkg=>?_) (λhr O_ hm hB=>?_))
 ·refine AD hb<|mV g0 M8 l1 l2 start O1.1 h2
 ·have:=VX g0 P x hx;exact Bp 0x11130ff4f2f4f0f2011008011914f20009 rfl hn this
 ·refine AD hb<|AD (PB ..) ?_;exact AQ 0x1011153ef8f212003020001030914f22009 rfl hn hl
 ·rw[rm,Vf g0 d hE Ut]at kg;refine AD et<|AD es ?_
  by_cases z:D start place+D place AF.length=D start AF.length
  ·exact absurd (AO h1 h2 z) kg
  ·exact DR 0x1121103211130130121113569211130119 rfl J2 z
 ·rw[rm,Vf g0 d hE Ut]at hr;obtain OJ:DK (GT (costOf lit AH) AF AF le wi mo) (costOf lit AH) start (l1++l2) AF.length:=⟨P,λl' p=>by
   have:=d.le p Ut (BX _);have:CJ (costOf lit AH) (l1++l2)=D start place+D place AF.length:=et;exact l35 0x10110100811011312130159114119413121352010071000079 rfl hr (by assumption) this⟩
  rw[hb]at hm|-;have k1:=fP.mpr hm;have k2:=fP.mpr hB;rw[PB]at k1 k2;(refine AI (PC g0 OJ M8 (show(Eg (l1++l2) start).idxOf O_<=(l1++l2).length by exact Sn k1)) λm1 AR=>?_;refine Cu AR λa1 a2 a3 a4 a5=>?_;clear AR);(refine AI (PC g0 Bu M8 (show(Eg steps start).idxOf O_<=steps.length by exact Sn k2)) λm2 Af=>?_;refine Cu Af λb1 b2 b3 b4 b5=>?_;clear Af);rw[ZH hm]at a1;rw[ZH hB]at b1;(obtain zI:=Au a1;subst zI);have:m1=m2:=by have:=Au b1;exact Ia this
  (try clear b1;subst this);have f1:=d.eq b4 b2 (b3);obtain f2:=d.eq a5 a3 (BX _);obtain f3:=d.eq b5 b3 (BX _);obtain f4:CJ (costOf lit AH) steps=CJ (costOf lit AH) (steps.take ((Eg steps start).idxOf (m1:Int)))+CJ (costOf lit AH) (steps.drop ((Eg steps start).idxOf (m1:Int))):=by rw[<-GY,QH]
  show CJ (costOf lit AH) _+CJ (costOf lit AH) _=CJ (costOf lit AH) steps;exact Lx 0x101011071101001721110135310132159413159411159 rfl f2 f3 f4
theorem mZ{n start e:Nat}(g0:Cz G)(h:DK G c start l e)(hs:∀i j st,G i j=some st->j<=e->BH st.1=max 1 st.1)(I6:k<=j)(hj:j<=l.length):
 ∃m1 m2:Nat,(Eg l start)[k]? =some (m1:Int)/\(Eg l start)[j]? =some (m2:Int)/\start<=m1/\m1<=m2/\m2<=e/\DK G c start (l.take k) m1/\DK G c start (l.take j) m2/\DK G c m1 ((l.take j).drop k) m2/\Canon G c start l e=Canon G c start l e:=by
 (refine AI (PC g0 h hs (show k<=l.length by exact Wt I6 hj)) λm1 AR=>?_;obtain a1:=AR.1;obtain a2:=AR.2.1;obtain a3:=AR.2.2.1;obtain a4:=AR.2.2.2.1;obtain a5:=AR.2.2.2.2);(refine AI (PC g0 h hs hj) λm2 Af=>?_;obtain b1:=Af.1;obtain b2:=Af.2.1;obtain b3:=Af.2.2.1;obtain b4:=Af.2.2.2.1;obtain b5:=Af.2.2.2.2);(refine AI (PC (k:=k) g0 b4 (λi j st x y=>hs i j st x (Wo b3 y)) (by refine AD Mo ?_;exact AQ 0x10114100142010a000201009100009 rfl I6 hj)) λm3 AX=>?_;obtain c1:=AX.1;obtain c2:=AX.2.1;obtain c3:=AX.2.2.1;obtain c4:=AX.2.2.2.1;obtain c5:=AX.2.2.2.2);rw[fV,QK I6]at c4;obtain e1:=Path.fn g0 g0 c4.1 a4.1;subst e1;exact(Aj m3 m2 (UB a1 b1 a2 c3 b3 a4 b4 c5 rfl))
theorem nq{start n:Nat}(g0:Cz G)(d:F_ G c n D)(h:DK G c start l n)(hs:∀i j st,G i j=some st->j<=n->BH st.1=max 1 st.1)
 {k later kb lb:Nat} (hk:k<=later) (hl:later<=l.length) (e1:(Eg l start)[k]? =some (kb:Int)) (e2:(Eg l start)[later]? =some (lb:Int)):kb<=lb/\CJ c (l.take later)-CJ c (l.take k)=D kb lb:=by
 (refine Ao (mZ (n:=n) g0 h hs hk hl) λm1 m2 A9=>?_;refine QT A9 λa1 a2 a3 a4 a5 a6 a7 a8 Z=>?_);rw[a1]at e1;rw[a2]at e2;obtain e1:=Au e1;obtain e2:=Au e2;obtain this:m1=kb:=by exact Ia e1
 subst this;obtain this:m2=lb:=by exact Ia e2
 subst this;refine⟨a4,?_⟩;obtain f:=d.eq a8 a4 a5;obtain t:CJ c (l.take later)=CJ c ((l.take later).take k)+CJ c ((l.take later).drop k):=by rw[<-GY,QH]
 rw[fV,QK hk]at t;exact IL 0x11010510101521110145311130159213159 rfl f t
theorem VQ:oc (AF.drop Aa) i=oc AF (i+Aa):=by
 unfold oc;rw[Mm,Mm,fK,t_]
theorem gE:Bn (AF.drop Aa) p q c↔Bn AF (p+Aa) (q+Aa) c:=by
 unfold Bn;constructor
 ·intro h i hi;obtain this:=h i hi;rw[VQ,VQ]at this;rw[show p+Aa+i=p+i+Aa by exact Wu,show q+Aa+i=q+i+Aa by exact Wu];exact this
 ·intro h i hi;obtain this:=h i hi;rw[VQ,VQ];rw[show p+Aa+i=p+i+Aa by exact Wu,show q+Aa+i=q+i+Aa by exact Wu]at this;exact this
theorem LU:cL (AF.drop Aa) lim p q=cL AF lim (p+Aa) (q+Aa):=by
 obtain h1:=(UK (o:=AF) (lim:=lim) (p:=p+Aa) (q:=q+Aa) (c:=cL (AF.drop Aa) lim p q)).mpr ⟨D9,gE.mp EH⟩;obtain h2:=(UK (o:=AF.drop Aa) (lim:=lim) (p:=p) (q:=q) (c:=cL AF lim (p+Aa) (q+Aa))).mpr ⟨D9,gE.mpr EH⟩;exact c6 h1 h2
theorem AQ9{AF:List Int}{Aa p lim lo:Nat}{wi:Int}(h:Aa=0\/wi<=p):Gx AF (p+Aa) lim wi lo x↔Gx (AF.drop Aa) p lim wi lo x:=by
 constructor
 ·intro Dh;(refine AI Dh λq AX=>?_;obtain h1:=AX.1;obtain h2:=AX.2.1;obtain Cs:=AX.2.2.1;obtain h3:=AX.2.2.2.1;obtain h4:=AX.2.2.2.2;clear AX;try clear Dh;subst Cs);obtain⟨r,rfl⟩:∃r,q=r+Aa:=⟨q-Aa,by exact Cn 0x10114110041000410004110001611000510000510000510100043004010081020384192080110210489 rfl h h2⟩;refine⟨r,(An (dB h1) (Cn 0x112011080084101201038200038419 rfl h2) (by refine AD LU ?_;congr 1;exact AQ 0x1111208008410203810003845 rfl) (by refine AD LU ?_;exact h3) (λq' a b=>?_))⟩;refine AD LU<|AD LU ?_
  exact h4 (q'+Aa) (Wr a) (Wr b)
 ·intro KA;(refine AI KA λq Ai=>?_;obtain h1:=Ai.1;obtain h2:=Ai.2.1;obtain Eb:=Ai.2.2.1;obtain h3:=Ai.2.2.2.1;obtain h4:=Ai.2.2.2.2;clear Ai;try clear KA;subst Eb);rw[LU]at h3;refine⟨(q+Aa),(An (Wr h1) (Cn 0x112011020381000384101208008419 rfl h2) (by refine AD LU ?_;congr 1;exact AQ 0x1111201038200038410800845 rfl) h3 (λq' a b=>?_))⟩;obtain⟨r,rfl⟩:∃r,q'=r+Aa:=⟨q'-Aa,by exact AQ 0x100011611031003100310100043004001020329 rfl a⟩;have:=h4 r (dB a) (dB b);rw[LU,LU]at this;exact this
theorem uf{AF:List Int}{Aa p:Nat}{wi mo sh:Int}(h:Aa=0\/wi<=p)(hc:Aa<=AF.length):RL (AF.drop Aa) wi mo sh p=RL AF wi mo sh (p+Aa):=by
 unfold RL;have e:(min mo (((AF.drop Aa).length:Int)-(p:Int))).toNat=(min mo ((AF.length:Int)-((p+Aa:Nat):Int))).toNat:=by
  refine AD Mn ?_;congr 2;exact AQ 0x1103101310031003102038008420810004845001009 rfl hc
 refine AD e ?_;obtain a:=IQ (o:=AF.drop Aa) (p:=p) (lim:=(min mo ((AF.length:Int)-((p+Aa:Nat):Int))).toNat) (wi:=wi) (lo:=(sh-1).toNat);obtain b:=IQ (o:=AF) (p:=p+Aa) (lim:=(min mo ((AF.length:Int)-((p+Aa:Nat):Int))).toNat) (wi:=wi) (lo:=(sh-1).toNat);exact Xh a.1 b.1 λx=>(a.2 x).trans (AQ9 h).symm |>.trans (b.2 x).symm
theorem Uh{AP}(h:¬i<j):GT c t AP le wi mo i j=none:=by
 cases e:GT c t AP le wi mo i j with
 |none=>rfl
 |some st=>have:=(ET _ _ _ e).1;exact C5 (AM 0x112a1000291000269 rfl h this)
theorem AA4{AF:List Int}{le wi mo:Int}{Aa bg k:Nat}(h:Aa=0\/wi<=bg)(hc:Aa<=AF.length):Alike (GT c AF AF le wi mo) (GT c ((AF.drop Aa).take k) (AF.drop Aa) le wi mo) Aa bg k:=λi j h1 h2=>by
 by_cases Gk:i<j
 ·show HA _ _ _ _ _ _=HA _ _ _ _ _ _;unfold HA opts;have e1:((AF.drop Aa).take k).getD i 0=AF.getD (i+Aa) 0:=by
   rw[Mm,Mm,XM,if_pos (by exact AQ 1290109940881159925800969 (by kernel_rfl) h2 Gk),fK,t_]
  obtain e2:=uf (AF:=AF) (Aa:=Aa) (p:=i) (wi:=wi) (mo:=mo) (sh:=max le 2) (Cn 0x1010051011410104100141080110200481020092080110200489 rfl h h1) hc;refine AD e1<|AD e2 ?_
  congr 1;refine XJ λs Z=>?_;congr 1;apply propext;omega
 ·rw[Uh Gk,Uh (by exact AQ 20707614141548139814847081 (by kernel_rfl) Gk)]
theorem AP8{AF:List Int}{le wi mo:Int}{start one two b1 b2 Aa Ay:Nat}(T:Txt AF)(H:HV le wi mo)(hw:JJ Ay le)
 (Bu:Canon (GT (costOf lit AH) AF AF le wi mo) (costOf lit AH) start steps AF.length) (Lg:one<=two) (h2:two<=steps.length) (e1:(Eg steps start)[one]? =some (b1:Int)) (e2:(Eg steps start)[two]? =some (b2:Int)) (hc:(Aa:Int)<=max 0 ((b1:Int)-wi)):
 b1<=b2/\b2<=AF.length/\Aa<=b1/\(Aa=0\/wi<=(b1-Aa:Nat))/\EN lit AH Ay ((AF.drop Aa).take (b2-Aa)) (AF.drop Aa) (b1-Aa) le wi mo=(steps.take two).drop one:=by
 have g0:Cz (GT (costOf lit AH) AF AF le wi mo):=ET;(refine Ao (mZ (n:=0) g0 (Bu.opt g0) M8 Lg h2) λm1 m2 A6=>?_;refine QT A6 λa1 a2 a3 a4 a5 a6 a7 a8 Z=>?_;clear A6);rw[a1]at e1;rw[a2]at e2;obtain e1:=Au e1;obtain e2:=Au e2;obtain this:m1=b1:=by exact Ia e1
 subst this;obtain this:m2=b2:=by exact Ia e2
 subst this;obtain w1:=H.w1;obtain Un:Aa<=m1:=by exact Bm 0x1010106111041000001121901108402b00819 rfl hc w1
 obtain kL:Aa=0\/wi<=(m1-Aa:Nat):=by exact Bm 0x100100610010061103110311010510010511010510010500104801102004801108402b00819 rfl hc
 refine(An a4 a5 Un kL ?_);have hsp:steps=steps.take one++(steps.take two).drop one++steps.drop two:=by
  obtain this:steps.take one=(steps.take two).take one:=by rw[fV,QK Lg]
  rw[this,QH,QH]
 rw[hsp]at Bu;obtain C:=Bu.mid a6.1 a8.1;obtain hl:((AF.drop Aa).take (m2-Aa)).length=m2-Aa:=by refine AG Mo<|AD Mn ?_;exact rZ a5
 obtain C':Canon (GT (costOf lit AH) ((AF.drop Aa).take (m2-Aa)) (AF.drop Aa) le wi mo) (costOf lit AH) (m1-Aa) ((steps.take two).drop one) (m2-Aa):=
  Canon.alike ET g0 (AA4 kL (CM 0x1111410000200009103009302009 rfl a4 a5 Un)) (by refine AD (show m1-Aa+Aa=m1 by exact AM 0x110310131003100300101000434001009 rfl Un)<|AD (show m2-Aa+Aa=m2 by exact AQ 0x1100410114100041000400101000434201009002009 rfl a4 Un) ?_;exact C)
 obtain Td:Txt (AF.drop Aa):=⟨λx hx=>T.oct x (XQ hx),by refine AD Mn ?_;obtain this:=T.len;exact AM 0x10031010153ef8f21000403ef8f20009 rfl this⟩;obtain C2:=Pa (lit:=lit) (AH:=AH) (AF:=(AF.drop Aa).take (m2-Aa)) (start:=m1-Aa) Td (by refine AD hl<|AD Mn ?_;exact AQ 0x1000411004110141001410204100040200009 rfl a5) (by refine AD hl ?_;exact AQ 0x1000411004110141001410204100040200009 rfl a4) hw H;rw[hl]at C2;exact Canon.unique ET _ (BX _) C2 C'
theorem VS(h:i<k):oc (AF.take k) i=oc AF i:=by
 unfold oc;rw[Mm,Mm,XM,if_pos h]
theorem gF(hq:q<=p)(h:p+c<=k):Bn (AF.take k) p q c↔Bn AF p q c:=by
 unfold Bn;constructor
 ·intro a i hi;obtain this:=a i hi;rw[VS (by exact CM 21644763825868913563416483857161 (by kernel_rfl) h hi),VS (by exact Lz 5807739825460341123194818258879712854025 (by kernel_rfl) hq h hi)]at this;exact this
 ·intro a i hi;rw[VS (by exact CM 21644763825868913563416483857161 (by kernel_rfl) h hi),VS (by exact Lz 5807739825460341123194818258879712854025 (by kernel_rfl) hq h hi)];exact a i hi
theorem gj(hq:q<=p)(h1:IM<=lim)(h2:p+IM<=k):cL (AF.take k) IM p q=min (cL AF lim p q) IM:=by
 obtain a:=(UK (o:=AF.take k) (lim:=IM) (p:=p) (q:=q) (c:=min (cL AF lim p q) IM)).mpr ⟨by exact AM 4539961089982624 rfl,(gF hq (CM 0x10131113302010a0030302000309 rfl h2)).mpr ((EH (lim:=lim)).mono (AM 4821367078781088 rfl))⟩;have b:cL (AF.take k) IM p q<=IM:=D9;obtain c:=(UK (o:=AF) (lim:=lim) (p:=p) (q:=q) (c:=cL (AF.take k) IM p q)).mpr ⟨by exact Wo h1 b,(gF hq (CM 0x111320100030301009203000309 rfl h2 b)).mp EH⟩;exact AQ 0x100010610010061100106101000611001061001006100010610100062010a004100009200009002010a09 rfl a b c
theorem AR0{lo}(h1:IM<=lim)(h2:p+IM<=k)(h:Gx (AF.take k) p IM wi lo x):∃y,Gx AF p lim wi lo y/\y.2=x.2/\x.1<=y.1:=by
 (refine AI h λq AR=>?_;obtain a1:=AR.1;obtain a2:=AR.2.1;obtain C4:=AR.2.2.1;obtain a3:=AR.2.2.2.1;obtain a4:=AR.2.2.2.2;clear AR;try clear h;subst C4);obtain e:=λq (hq:q<=p)=>gj (AF:=AF) (q:=q) hq h1 h2;rw[e q (DH a1)]at a3;refine⟨_,(AO ⟨q,(An a1 a2 rfl (AQ 0x11131103100022010a0029 rfl a3) (λq' b1 b2=>?_))⟩ rfl ?_)⟩
 ·obtain this:=a4 q' b1 b2;rw[e q' (DH b2),e q (DH a1)]at this;exact AQ 0x100311031110411004100022010a2000a29 rfl this
 ·rw[e q (DH a1)];simp only;exact AM 0x1121020081000a81 rfl
theorem fy{AP}(hk:k<=AP.length)(hp:p<=k)(h:x∈RL (AP.take k) wi mo sh p):∃y∈RL AP wi mo sh p,y.2=x.2/\x.1<=y.1:=by
 unfold RL at h|-;obtain hl:(AP.take k).length=k:=by apply AG Mo;exact dA hk
 rw[hl]at h;(refine AI (AR0 (lim:=(min mo ((AP.length:Int)-(p:Int))).toNat) (rd hk) (Bm 0x1001410004100141010410008108401a90030100009 rfl hp) ((IQ.2 x).mp h)) λy AX=>?_;obtain h1:=AX.1;obtain h2:=AX.2.1;obtain h3:=AX.2.2;clear AX);exact⟨y,(AO ((IQ.2 y).mpr h1) h2 h3)⟩
theorem AO8{AP}(hk:k<=AP.length)(hp:p<k)(h:s∈opts (AP.take k) sh (RL (AP.take k) wi mo sh) p):s∈opts (AP.take k) sh (RL AP wi mo sh) p:=by
 unfold opts at h|-;rcases CH.mp h with rfl|h
 ·exact .head _
 ·(refine AI (JU.mp h) λx A9=>?_;obtain hx:=A9.1;obtain hs:=A9.2;clear A9);(refine AI (DJ.mp hs) λpart Ai=>?_;obtain Ur:=Ai.1;obtain Eb:=Ai.2;clear Ai;subst Eb);(refine AI (fy hk (DH hp) hx) λy A6=>?_;obtain hy:=A6.1;obtain e1:=A6.2.1;obtain e2:=A6.2.2;clear A6);obtain this:=MG.mp Ur;exact .tail _ (JU.mpr ⟨y,⟨hy,(DJ.mpr ⟨part,⟨(MG.mpr ⟨this.1,by exact IL 0x1101412113013123130130121179113119 rfl e2 this⟩),(by rw[e1])⟩⟩)⟩⟩)
theorem AA6{AP st}(hk:k<=AP.length)(hj:j<=k)(h:GT c (AP.take k) (AP.take k) le wi mo i j=some st):∃CA,GT c (AP.take k) AP le wi mo i j=some CA/\c CA<=c st:=by
 have Gk:=(ET _ _ _ h).1;have h1:=Ez.mp (UX h).1;have h2:st∈(opts (AP.take k) (max le 2) (RL AP wi mo (max le 2)) i).filter λs=>decide ((j:Int)=i+BH s.1):=Ez.mpr ⟨AO8 hk (Pz hj Gk) h1.1,h1.2⟩;cases e:GT c (AP.take k) AP le wi mo i j with
 |none=>
  have e':fmin c ((opts (AP.take k) (max le 2) (RL AP wi mo (max le 2)) i).filter λs=>decide ((j:Int)=i+BH s.1))=none:=e;rw[i8 e']at h2;cases h2
 |some CA=>exact⟨CA,⟨rfl,((UX e).2 st h2)⟩⟩
theorem nv{AP}(hk:k<=AP.length):∀{l:List (Int×Int)}{i:Nat},Path (GT c (AP.take k) (AP.take k) le wi mo) i l k->∃l',Path (GT c (AP.take k) AP le wi mo) i l' k/\CJ c l'<=CJ c l
 |[],i,h=>⟨([]),⟨h,(FY _)⟩⟩
 |st::l,i,⟨m,h1,h2⟩=>by
  obtain hm:=Path.le ET h2;(refine AI (AA6 hk hm h1) λCA A2=>?_;obtain a1:=A2.1;obtain a2:=A2.2;clear A2);(refine AI (nv hk h2) λl' BC=>?_;obtain b1:=BC.1;obtain b2:=BC.2;clear BC);exact⟨(CA::l'),⟨⟨m,⟨a1,b1⟩⟩,(by refine AD pY<|AD pY ?_;exact IL 0x111331213110131311119210119 rfl a2 b2)⟩⟩
theorem yD:∀{B:List (Int×Int)},(∀z∈B,c y<=c z)->fmin c (y::B)=some y:=by
 intro B h;show some (G_ c y B)=some y;congr 1;induction B with
 |nil=>rfl
 |cons z B ih=>
  obtain hz:=h z (.head _);obtain this:=ih λw hw=>h w (.tail _ hw);unfold G_ at this|-;refine AG DW<|AD (if_neg (Bd 77142840517398809 rfl hz)) ?_
  exact this
theorem oN:∀(n:Nat)(a:Int),(b-a).toNat<=n->(BP a b).filter (λx=>decide (x=L))=if a<=L/\L<b then[L]else[]
 |0,a,h=>by refine AD (Vi (Bd 0x10131103110110211014909 rfl h))<|AD (if_neg (by exact DR 22603387929983020544675713946268813577 (by kernel_rfl) h)) ?_;rfl
 |n+1,a,h=>by
  by_cases NA:a<b
  ·refine AD (oM NA)<|AG H2<|AD (oN n (a+1) (by exact Dv 1628283911447240974064235204550505644008539100597537033 (by kernel_rfl) h)) ?_
   by_cases e:a=L
   ·subst e;rw[if_pos (by simp),if_neg (by exact Bd 19676247667299660150 (by kernel_rfl)),if_pos (by exact Bd 331321842338959373966049593 (by kernel_rfl) NA)]
   ·apply AG (if_neg (by simpa using e));by_cases q:a+1<=L/\L<b
    ·rw[if_pos q,if_pos (by exact DR 5788871386378677574502399160971125928313 (by kernel_rfl) q)]
    ·rw[if_neg q,if_neg (by exact DR 1613314866334011644218383584736837755353118381665375661069673 (by kernel_rfl) e q)]
  ·refine AD (Vi (Bd 77142839880913769 rfl NA))<|AD (if_neg (DR 0x11132111311011762101369 rfl NA)) ?_;rfl
theorem i0(hL:sh<=L):∀(R:List (Int×Int)),(R.flatMap λx=>(BP sh (x.1+1)).map λpart=>(part,x.2)).filter (λs=>decide (s.1=L))=(R.filter λx=>decide (L<=x.1)).map λx=>(L,x.2)
 |[]=>rfl
 |x::R=>by
  refine AD List.flatMap_cons<|AG (QC ..)<|AD (i0 hL R)<|AD List.filter_map ?_
  have e:((BP sh (x.1+1)).filter ((λs:Int×Int=>decide (s.1=L))∘λpart=>(part,x.2)))=if L<=x.1 then[L]else[]:=by
   obtain this:=oN (L:=L) _ sh (BX (x.1+1-sh).toNat);refine AD (show((λs:Int×Int=>decide (s.1=L))∘λpart=>(part,x.2))=λy=>decide (y=L)from rfl)<|AG this ?_
   by_cases q:L<=x.1
   ·rw[if_pos (by exact DR 5788871385195206911104534262893354483993 (by kernel_rfl) hL q),if_pos q]
   ·rw[if_neg (by exact DR 1273552732822946295998944711017 (by kernel_rfl) q),if_neg q]
  refine AD e<|AD H2 ?_
  by_cases q:L<=x.1
  ·refine AD (if_pos q)<|AD (if_pos (decide_eq_true q)) ?_;rfl
  ·refine AD (if_neg q)<|AD (if_neg (by simpa using q)) ?_;rfl
theorem AJ0{o:List Int}{p lim lo L:Nat}{wi:Int}{q:Nat}(h1:q<p)(h2:(p:Int)-q<=wi)(h3:L<=cL o lim p q)(hL:lo<L):∃r,q<=r/\r<p/\L<=cL o lim p r/\Gx o p lim wi lo ((cL o lim p r:Int),(p:Int)-r)/\∀r',r<r'->r'<p->cL o lim p r'<L:=by
 (refine AI (Z4 (P:=λr=>q<=r/\L<=cL o lim p r) (λr=>-(r:Int)) p ⟨q,(AO h1 (BX _) h3)⟩) λr AR=>?_;obtain a1:=AR.1;obtain Nl:=AR.2.1;obtain a4:=AR.2.2;obtain⟨a2,a3⟩:=Nl);have LZ:∀r',r<r'->r'<p->cL o lim p r'<L:=λr' b1 b2=>by
  by_cases z:L<=cL o lim p r'
  ·have:=a4 r' b2 ⟨by exact AQ 0x111310000102029200009 rfl a2 b1,z⟩;exact CM 0x112100023085208519302029 rfl b1 this
  ·exact AM 77141736341700713 rfl z
 exact⟨r,(An a2 a1 a3 ⟨r,(An a1 (Cn 0x1113011080084110200901208008419 rfl h2 a2) rfl (c8 hL a3) (λq' b1 b2=>by have:=LZ q' b1 b2;exact Pz a3 this))⟩ LZ)⟩
theorem AJ2{AP:List Int}{k p:Nat}{wi mo sh:Int}{L:Nat}(hk:k<=AP.length)(hp:p+L<=k)(h2:2<=sh)(hL:sh<=L)(hy:y∈RL AP wi mo sh p)(lK:(L:Int)<=y.1):∃x∈RL (AP.take k) wi mo sh p,(L:Int)<=x.1/\x.2<=y.2:=by
 unfold RL at hy|-;obtain hl:(AP.take k).length=k:=by apply AG Mo;exact dA hk
 refine AD hl ?_;(refine AI ((IQ.2 y).mp hy) λq AX=>?_;obtain a1:=AX.1;obtain a2:=AX.2.1;obtain Cs:=AX.2.2.1;obtain a3:=AX.2.2.2.1;obtain a4:=AX.2.2.2.2;subst Cs);simp only at lK;have HC:cL AP (min mo ((AP.length:Int)-(p:Int))).toNat p q<=_:=D9;obtain e:=gj (AF:=AP) (k:=k) (p:=p) (q:=q) (lim:=(min mo ((AP.length:Int)-(p:Int))).toNat) (IM:=(min mo ((k:Int)-(p:Int))).toNat) (DH a1) (rd hk) (Cn 0x1001001710004100100171010410008108401a90030102000309 rfl hp);(refine AI (AJ0 (o:=AP.take k) (lim:=(min mo ((k:Int)-(p:Int))).toNat) (lo:=(sh-1).toNat) (L:=L) a1 a2 (by refine AD e ?_;exact Zb 0x10100000191000000109100000001910000001091000100109100000010910101001091000000109101000001910000001091000000019100000010910101011091000000109100010110910000001091010000019100000010910000000191000000109100010010910000001091010100109100000010910100000191000000109100000001910000001091010100109100000010910001001091000000109308208401a910a000308408401a9100910800819200030309 rfl hp lK HC) (Bp 0x1013101040012014920080119012219 rfl h2 hL)) λr Ai=>?_;obtain b1:=Ai.1;obtain b2:=Ai.2.1;obtain b3:=Ai.2.2.1;obtain b4:=Ai.2.2.2.1);exact⟨_,(AO ((IQ.2 _).mpr b4) (by simp only;exact Wg b3) (by simp only;exact AQ 0x112208008410800841102009 rfl b1))⟩
theorem kN(hm:∀d d',d<=d'->c (L,d)<=c (L,d'))(h:Gw (x::l)):fmin c ((x::l).map λx=>(L,x.2))=some (L,x.2):=by
 refine AD By<|yD λz hz=>?_
 (refine AI (DJ.mp hz) λw A5=>?_;obtain hw:=A5.1;obtain Ex:=A5.2;subst Ex);exact hm _ _ (by have:=(OC.mp h).1 w hw;exact Bd 4821427493601593 rfl this)
theorem AA5{AP:List Int}{le wi mo:Int}{k s:Nat}(hk:k<=AP.length)(hm:∀l d d',2<=l->d<=d'->c (l,d)<=c (l,d')):Alike (GT c (AP.take k) AP le wi mo) (GT c (AP.take k) (AP.take k) le wi mo) 0 s k:=λi j h1 h2=>by
 show _=GT c (AP.take k) AP le wi mo i j;by_cases Gk:i<j
 ·have Fg:2<=max le 2:=by exact Nx
  unfold GT HA opts;by_cases e1:j=i+1
  ·have none:∀R:Nat->List (Int×Int),((0,(AP.take k).getD i 0)::(R i).flatMap λx=>(BP (max le 2) (x.1+1)).map λpart=>(part,x.2)).filter (λs=>decide ((j:Int)=i+BH s.1))=[(0,(AP.take k).getD i 0)]:=λR=>by
    refine AG H2<|AD (if_pos (by simp[BH];exact AM 0x110310131210830085121030049 rfl e1)) ?_
    congr 1;refine fH.mpr λz hz=>?_;(refine AI (JU.mp hz) λx A2=>?_;obtain hx:=A2.1;obtain hz:=A2.2);(refine AI (DJ.mp hz) λpart BC=>?_;obtain hp:=BC.1;obtain K4:=BC.2;subst K4);have:=MG.mp hp;simp only[decide_eq_true_eq];unfold BH;refine AD (if_neg (DR 0x101141010402015612213013012211b179 rfl this))<|O7 0x10011017100100170110830085612213013012211b179121030049 rfl e1 this
   rw[none,none]
  ·obtain⟨L,rfl⟩:∃L,j=i+L:=⟨j-i,by exact AM 0x1121121003100310004103004001029 rfl Gk⟩;have big:∀R:Nat->List (Int×Int),((0,(AP.take k).getD i 0)::(R i).flatMap λx=>(BP (max le 2) (x.1+1)).map λpart=>(part,x.2)).filter (λs=>decide (((i+L:Nat):Int)=i+BH s.1))=
    if max le 2<=(L:Int)then((R i).filter λx=>decide ((L:Int)<=x.1)).map λx=>((L:Int),x.2)else[]:=λR=>by
    refine AG H2<|AD (if_neg (by simp[BH];exact AM 0x101311212008561210300103469 rfl e1)) ?_
    have cg:∀z∈((R i).flatMap λx=>(BP (max le 2) (x.1+1)).map λpart=>(part,x.2)),max le 2<=z.1:=λz hz=>by
     (refine AI (JU.mp hz) λx Bx=>?_;obtain hx:=Bx.1;obtain hz:=Bx.2);(refine AI (DJ.mp hz) λpart CB=>?_;obtain hp:=CB.1;obtain Nj:=CB.2;subst Nj);exact(MG.mp hp).1
    refine AD (XJ (q:=λs=>decide (s.1=(L:Int))) λz hz=>by
     have:=cg z hz;unfold BH;rw[if_neg (by exact Bd 330268443328154772103568153 (by kernel_rfl) this)];congr 1;apply propext;omega) ?_
    by_cases q:max le 2<=(L:Int)
    ·(refine AD (if_pos q) ?_;rw[i0 q])
    ·refine AD (if_neg q)<|fH.mpr λz hz=>?_
     have:=cg z hz;simp only[decide_eq_true_eq];exact Dv 0x1101051111051111051101050080156012211b190082211b169 rfl q this
   refine AD (big ..)<|AD (big ..) ?_
   by_cases q:max le 2<=(L:Int)
   ·refine AD (if_pos q)<|AD (if_pos q) ?_
    have sA:Gw ((RL (AP.take k) wi mo (max le 2) i).filter λx=>decide ((L:Int)<=x.1)):=(show Gw (RL (AP.take k) wi mo (max le 2) i)from IQ.1).filter _;have sB:Gw ((RL AP wi mo (max le 2) i).filter λx=>decide ((L:Int)<=x.1)):=(show Gw (RL AP wi mo (max le 2) i)from IQ.1).filter _;have AB:∀x∈(RL (AP.take k) wi mo (max le 2) i).filter (λx=>decide ((L:Int)<=x.1)),∃y∈(RL AP wi mo (max le 2) i).filter (λx=>decide ((L:Int)<=x.1)),y.2=x.2:=λx hx=>by
     obtain⟨D5,EC⟩:=Ez.mp hx;(refine AI (fy hk (AQ 0x10011510000102000309 rfl h2) D5) λy B0=>?_;obtain y1:=B0.1;obtain y2:=B0.2.1;obtain y3:=B0.2.2);have:=of_decide_eq_true EC;exact⟨y,⟨(Ez.mpr ⟨y1,decide_eq_true (Dv 0x11130100811100819011119 rfl y3 this)⟩),y2⟩⟩
    have BA:∀y∈(RL AP wi mo (max le 2) i).filter (λx=>decide ((L:Int)<=x.1)),∃x∈(RL (AP.take k) wi mo (max le 2) i).filter (λx=>decide ((L:Int)<=x.1)),x.2<=y.2:=λy hy=>by
     obtain⟨Uz,U1⟩:=Ez.mp hy;(refine AI (AJ2 hk h2 Fg q Uz (of_decide_eq_true U1)) λx Cb=>?_;obtain x1:=Cb.1;obtain x2:=Cb.2.1;obtain x3:=Cb.2.2);exact⟨x,⟨(Ez.mpr ⟨x1,decide_eq_true x2⟩),x3⟩⟩
    generalize (RL (AP.take k) wi mo (max le 2) i).filter (λx=>decide ((L:Int)<=x.1))=A at sA AB BA|-;generalize (RL AP wi mo (max le 2) i).filter (λx=>decide ((L:Int)<=x.1))=B at sB AB BA|-;have least:∀{x:Int×Int}{l:List (Int×Int)},Gw (x::l)->∀z∈x::l,x.2<=z.2:=λh z hz=>by
     rcases CH.mp hz with rfl|hz
     ·exact FY _
     ·exact ey ((OC.mp h).1 z hz)
    cases A with
    |nil=>
     cases B with
     |nil=>rfl
     |cons y B=>(refine AI (BA y (.head _)) λx Cg=>?_;obtain hx:=Cg.1);cases hx
    |cons x A=>
     cases B with
     |nil=>(refine AI (AB x (.head _)) λy Bt=>?_;obtain hy:=Bt.1);cases hy
     |cons y B=>
      refine AD (kN (λd d' h=>hm L d d' (Bp 0x111311030082210082201b19 rfl q) h) sA)<|AD (kN (λd d' h=>hm L d d' (Bp 0x111311030082210082201b19 rfl q) h) sB) ?_
      (refine AI (AB x (.head _)) λy' DU=>?_;obtain p1:=DU.1;obtain p2:=DU.2);(refine AI (BA y (.head _)) λx' Ct=>?_;obtain p3:=Ct.1;obtain p4:=Ct.2);have p5:=least sB y' p1;have p6:=least sA x' p3;exact AD (show x.2=y.2 by exact IL 0x1010016110100611015210119311119112119013159 rfl p2 p4 p5 p6) rfl
   ·rw[if_neg q,if_neg q]
 ·rw[Uh Gk,Uh Gk]
theorem AT3{AF:List Int}{Aa:Nat}:A3 AF (some (Aa:Int)) none=AF.drop Aa:=by simp[A3]
theorem AT4{l:List (Int×Int)}{a b:Nat}:A3 l (some (a:Int)) (some (b:Int))=(l.take b).drop a:=by simp[A3]
theorem AP7{AF:List Int}{le wi mo:Int}{start one two b1 b2 Aa:Nat}{flat:Bool}(T:Txt AF)(hn:AF.length<=20)(H:HV le wi mo)
 (hf:flat=true->(∀o o',lit o=lit o')/\∀l d d',d<=d'->AH l d<=AH l d')
 (Bu:Canon (GT (costOf lit AH) AF AF le wi mo) (costOf lit AH) start steps AF.length) (Lg:one<two) (h2:two<=steps.length) (e1:(Eg steps start)[one]? =some (b1:Int)) (e2:(Eg steps start)[two]? =some (b2:Int)) (hc:(Aa:Int)<=max 0 ((b1:Int)-wi)):
 b1<=b2/\Aa<=b1/\XY lit AH le wi mo flat (A3 (A3 AF (some (Aa:Int)) none) none (some ((b2:Int)-Aa))) (A3 AF (some (Aa:Int)) none) (b1-Aa) (A3 steps (some (one:Int)) (some (two:Int))):=by
 have A:=λAy hw=>AP8 (Ay:=Ay) (lit:=lit) (AH:=AH) T H hw Bu (D3 Lg) h2 e1 e2 hc;(refine Cu (A 0 (JX _)) λk1 k2 k3 k4 Z=>?_);refine(AO k1 k3 ?_);refine AD AT3<|AD (show((b2:Int)-Aa)=((b2-Aa:Nat):Int)by exact AQ 0x1011411004100041000410004810800845201009002009 rfl k1 k3)<|AD oj<|AD AT4 ?_
 have hl:((AF.drop Aa).take (b2-Aa)).length=b2-Aa:=by refine AG Mo<|AD Mn ?_;exact rZ k2
 have hd:(AF.drop Aa).length=AF.length-Aa:=Mn;have Td:Txt (AF.drop Aa):=⟨λx hx=>T.oct x (XQ hx),by refine AD hd ?_;have:=T.len;exact AM 0x10031010153ef8f210004014f20009 rfl hn⟩;have Ts:Txt ((AF.drop Aa).take (b2-Aa)):=⟨λx hx=>Td.oct x (Tg hx),by refine AD hl ?_;exact AQ 0x1000410101163ef8f210004020000914f22009 rfl hn k2⟩;refine(An Td Ts (P4 k1 hl) (dE k2 hl hd) (λAy hw=>?_));have Kj:JJ Ay le:=hw;(refine Cu (A Ay Kj) λZ Z Z Z same=>?_);have C1:=Pa (lit:=lit) (AH:=AH) (AF:=(AF.drop Aa).take (b2-Aa)) (start:=b1-Aa) Td (dE k2 hl hd) (P4 k1 hl) Kj H;have C2:=Pa (lit:=lit) (AH:=AH) (AF:=(AF.drop Aa).take (b2-Aa)) (start:=b1-Aa) Ts (BX _) (P4 k1 hl) Kj H;have pS:=SG (lit:=lit) (AH:=AH) (AF:=(AF.drop Aa).take (b2-Aa)) (start:=b1-Aa) Td (dE k2 hl hd) (P4 k1 hl) Kj H;have pT:=SG (lit:=lit) (AH:=AH) (AF:=(AF.drop Aa).take (b2-Aa)) (start:=b1-Aa) Ts (BX _) (P4 k1 hl) Kj H;rw[same]at C1;have hk:b2-Aa<=(AF.drop Aa).length:=by exact P4 k2 hd
 generalize AF.drop Aa=AP at C1 C2 pS pT same hl hk|-;obtain E7:=Path.len ET C2.1;obtain O1:=C1.opt ET;refine(Dz pS pT same (λf=>?_) (λf=>⟨?_,?_⟩) (Zc 0x11001000811101000810011001011b1011001011a3ef8f200030002010430920404304950400914f25009 rfl hn k2 hl E7) (λx hx=>?_))
 ·obtain⟨f1,f2⟩:=hf f;obtain al:Alike (GT (costOf lit AH) (AP.take (b2-Aa)) AP le wi mo) (GT (costOf lit AH) (AP.take (b2-Aa)) (AP.take (b2-Aa)) le wi mo) 0 (b1-Aa) (b2-Aa):=AA5 hk λl d d' hl h=>by
   unfold costOf;refine AD (if_neg (by simp only;exact Aw 77126348379857433 rfl hl))<|AD (if_neg (by simp only;exact Aw 77126348379857433 rfl hl)) ?_
   exact f2 l d d' h
  rw[hl]at C1 C2;exact Canon.unique ET _ (BX _) C2 (Canon.alike ET ET al C1)
 ·refine AD (UG Pre.refl _ _ [] C2.1) ?_;intro z;have:=congrArg Tb z;rw[Th,PB]at this;cases this
 ·have P2:=C2.1;rw[hl]at P2;(refine AI (nv hk P2) λl' AR=>?_;refine BQ AR λa1 a2=>?_);rw[<-hl]at a1;have:=O1.2 l' (by rw[hl]at a1|-;exact a1);exact KL this a2
 ·have:=VX ET C2.1 x hx;exact Ly 0x110100071001101011a0ff4f2f4f0f2011008011920104004930100914f23009 rfl hn k2 hl this
theorem AE7{start}(T:Txt AF)(h6:6<=AF.length)(HB:AF.length<=10)(H:HV le wi mo)(hs:start<AF.length)(hw:JJ Ay le)
 (hf:flat=true->(∀o o',lit o=lit o')/\∀l d d',d<=d'->AH l d<=AH l d'):
 LQ lit AH Ay AF AF start le wi mo/\∃D,fE lit AH flat AF le wi mo start (EN lit AH Ay AF AF start le wi mo) (Gg AF le wi mo (EN lit AH Ay AF AF start le wi mo) [] start)
  (H_ lit AH AF (max 2 le) (ED AF le wi mo) start) D (reachF (H_ lit AH AF (max 2 le) (ED AF le wi mo) start) D start AF.length):=by
 have g0:Cz (GT (costOf lit AH) AF AF le wi mo):=ET;have C:=Pa (lit:=lit) (AH:=AH) (AF:=AF) (start:=start) T (BX _) (DH hs) hw H;refine⟨SG T (BX _) (DH hs) hw H,?_⟩;obtain⟨D,d⟩:=w0 (c:=costOf lit AH) (n:=AF.length) g0 λi hi=>jo Nx i;refine⟨D,?_⟩;generalize EN lit AH Ay AF AF start le wi mo=steps at C|-;have O:=C.opt g0;have hl:=Path.len g0 C.1;have hb:=UG Pre.refl steps start [] C.1;rw[Th]at hb;refine AD hb ?_;have hE:∀a g:Nat,start<=a->a<AF.length->Ak (H_ lit AH AF (max 2 le) (ED AF le wi mo) start) ((a:Int),(g:Int))=(GT (costOf lit AH) AF AF le wi mo a g).map (costOf lit AH):=λa g x y=>xD H.m2 x y;have mk:=λk hk=>PC (k:=k) g0 O M8 hk;have AF4:1<=steps.length:=by
  cases steps with
  |nil=>have:start=AF.length:=C.1;exact AQ 0x101300120201049201029 rfl hs this
  |cons _ _=>simp
 refine⟨AF4,by exact AQ 0x10111514f2000200010309a22009 rfl HB hl,λx hx=>by have:=VX g0 C.1 x hx;exact Bp 0x11130ff4f2f4f0f20110080119a20009 rfl HB this,PB _ _,λk hk=>?_,?_,λk j kb jb I6 e1 e2=>?_,λone two b1 b2 Aa Lg h2 e1 e2 hc=>AP7 T (Ah 0x11214f2000a20009 rfl HB) H hf C Lg h2 e1 e2 hc,
  λp hp=>AS3 H.m2 (Ah 4833590565273609 rfl HB) hp,wj g0 d hE,λz=>?_,?_,λx hx=>?_,λplace p1 p2=>AD4 T (Ah 0x11214f2000a20009 rfl HB) H d hE O p1 p2,λk later kb lb hk hl e1 e2=>(nq g0 d O M8 (D3 hk) hl e1 e2).2⟩
 ·(refine AI (mk k hk) λm AR=>?_;obtain a1:=AR.1;obtain a2:=AR.2.1;obtain a3:=AR.2.2.1);exact⟨m,(AO a1 a2 a3)⟩
 ·cases steps<;>rfl
 ·have hj:j<=steps.length:=by
   have:=(tW.mp e2).1;rw[PB]at this;exact Sn this
  exact(nq g0 d O M8 I6 hj e1 e2).1
 ·have:start∈reachF (H_ lit AH AF (max 2 le) (ED AF le wi mo) start) D start AF.length:=(Vf g0 d hE (DH hs)).mpr (AO (BX _) (DH hs) (by refine AD (d.zero ..) ?_;exact Aw 18764728959541 rfl));rw[z]at this;cases this
 ·have:=AQ8 (E:=H_ lit AH AF (max 2 le) (ED AF le wi mo) start) (D:=D) (start:=start) (en:=AF.length);exact AQ 0x110041001101715f2000122010430009a21009 rfl HB this
 ·have:=(Vf g0 d hE (DH hs)).mp hx;exact⟨this.1,this.2.1⟩
theorem AE2(w:CE)(h₀:BU):TX w h₀:=by
 intro AF le wi mo start p flat lit AH Ay ht h6 HB H hs P hw
 refine AE7 ⟨λx hx=>?_,by omega⟩ h6 HB H hs hw λhf=>?_
 ·rcases ht x hx with rfl|rfl|rfl<;>decide
 ·obtain⟨a,b,c,h0,rfl,rfl⟩:=P.flat hf
  exact⟨λZ Z=>rfl,λl d d' h=>x7 h0 h⟩
end Mine.Internal
theorem PySem.Challenge.cw_xm0994_01_holds : PySem.Challenge.rw_xm0994_01.Holds :=
 Mine.Internal.holds Mine.Internal.AE2
