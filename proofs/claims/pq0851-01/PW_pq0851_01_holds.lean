import PyProof.Rows.All
import Wide.All
import Open.Line
import Open.Tree
import Open.Boot
import Open.FastRun
import Open.FastT9
import PyProof.P3Statements
import PyProof.ReprReads
import PyProof.SliceMore
import PySem.Spec
import PyProof.ReprLen
import PyProof.Rows.ReprOcc
import PyProof.Rows.StrIntSpec
import PyProof.DictKinds
import PyProof.LayNoDict
import PyProof.Rows.SeqMore
import PyProof.Rows.ListMulArg
import PyProof.Rows.TupAdd
import PyProof.P3In
import PyProof.NeData
import PyProof.Rows.Nodes
import PyProof.ListTruth
import KE.KTupTruth
import PyProof.DictStraight
import PyProof.SliceStr2
import PyProof.Rows.StrSub
import PyProof.Rows.TupMore
import PyProof.ListIndexNeg
import PyProof.DictRoads
import PyProof.LetGo
import PyProof.Methods
import PyProof.Rows.Tup
import PyProof.StrOps
import PyProof.ListCopy
import PyProof.TupleOfSeq
import PyProof.TupleCall
import PyProof.IsiPairs
import PyProof.IsiNone
import PyProof.IsiHeapPairs
import PyProof.Rows.SumAny
import PyProof.Rows.SortStr
import PyProof.Rows.StrMeet
import PyProof.ReprRoads
import PyProof.CallFns
import PyProof.CallStr
import PyProof.SeqI3
import PyProof.MeetsSeq
import PyProof.Comp
import PyProof.DictCalls
import PyProof.StrCalls2
import PyProof.Rows.ExtendIn
import PyProof.Rows.StrWeight2
import PyProof.ListIndex
import PyProof.TupleIter
import PyProof.Rules3
import PyProof.Rows.RuleB_pow
import PyProof.SliceSyntax
import PyProof.FactsLen
import PyProof.Rows.StrBoot
import PyProof.Rows.Exc
import PyProof.Rows.Globals
import PyProof.DictTable
import PyProof.FactsAll.subtypes_5
import PyProof.FactsAll.dict_1
import PyProof.WalksMore
import PyProof.Cells
import PyProof.Draws
import PyProof.EnumMake
import PyProof.WalksPairs
import PyProof.RangeFor
import PyProof.CompFree
import PyProof.CompUse
import PyProof.DictWalks
import PyProof.RulesAssignMore
import PyProof.PureInt
import PyProof.Rows.CellsFrame
import Lean
import PySem.Challenge.RW_pq0851_01
set_option maxHeartbeats 2000000
set_option maxRecDepth 100000
set_option Elab.async false
set_option bootstrap.genMatcherCode false
set_option genSizeOf false
set_option genInjectivity false
set_option linter.all false
open Array renaming toList_inj->DX,toList_append->DY,toList_push->Jy,mem_toList_iff->Jz,getElem?_toList->JA,getElem?_eq_getElem->JB,size_push->ajJ,size_append->ajK,foldl_toList->ajL
open Bool renaming true->ae,false->ag,eq_false_iff->cz,or_false->cJ,and_eq_true_iff->dc,false_ne_true->ed,not_eq_true'->pF,or_eq_true_iff->q5,noConfusion->q6,and_eq_true->q7,or_assoc->xR,or_true->Jx,not_eq_false->Tv,and_false->Tw,or_eq_false_iff->ajF,eq_iff_iff->ajG,eq_false_or_eq_true->ajH,and_true->ajI
open Char renaming toNat->q0,toNat_inj->Tu
open Classical renaming propDecidable->akY
open Decidable renaming byCases->pE,byContradiction->Jw
open ForInStep renaming yield->l9
open Int renaming ofNat_lt->oA,le_trans->qZ,toNat_of_nonneg->vd,ofNat_le->ve,le_of_lt->vf,natCast_nonneg->xQ,ne_of_gt->AD,lt_of_le_of_lt->AE,le_of_eq->AF,emod_nonneg->AG,not_lt->DV,emod_lt_of_pos->DW,toNat_lt->Tp,not_le->Tq,natCast_pos->Ts,lt_of_lt_of_le->Tt,toNat_natCast->ajA,natAbs_of_nonneg->ajB,lt_trans->ajC,le_refl->ajD,add_le_add_right->ajE
open Int.ofNat renaming inj->akX
open List renaming mem_singleton->cU,mem_cons->dX,mem_map->eE,replicate->eW,length_append->eX,append_nil->fy,not_mem_nil->gA,mem_cons_self->gZ,mem_cons_of_mem->iE,length_map->iF,mem_append->iX,range->jE,nodup_cons->j3,getElem?_eq_some_iff->l8,map_cons->mV,filter_cons->mW,nodup_append->ow,append_assoc->oz,take->pA,mem_append_left->pB,length_set->pC,drop->pD,all_eq_true->sP,mem_append_right->u6,getElem?_map->u7,getElem?_append_left->u9,mem_of_getElem?->xM,mem_filter->xN,getElem?_set_ne->xO,filterMap_cons->xP,map_append->Az,length_take->AA,getElem?_set_self->AB,take_of_length_le->DN,mem_range->DP,lookup_cons->DQ,length_nil->DR,length->DT,any_eq_true->DU,take_length->Jo,lookup->Jp,length_cons->Jq,getElem?_append_right->Jr,filter_sublist->Js,cons->Ju,prefix_refl->S4,pairwise_singleton->S5,pairwise_map->S6,mem_reverse->S7,mem_replicate->S8,mem_of_mem_take->S9,mem_map_of_mem->Tb,length_take_le'->Tc,length_range->Td,length_drop->Te,isEmpty_iff->Tf,getElem?_eq_none->Th,getElem?_eq_getElem->Ti,getElem?_concat_length->Tj,drop_zero->Tl,drop_nil->Tn,any_cons->To,take_append_drop->aja,tail_drop->ajb,reverse_perm->ajc,reverse_cons->ajd,range'_succ->aje,range'->ajf,perm_append_comm_assoc->ajg,mergeSort_perm->ajh,mem_of_mem_drop->aji,mem_mergeSort->ajj,map_map->ajk,map_fst_zip->ajl,map_congr_left->ajm,map->ajn,lookup_append->ajo,length_replicate->ajp,length_eq_zero_iff->ajq,head?_drop->ajr,getElem?_take->ajs,getElem?_inj->ajt,forIn_cons->aju,filter_append->ajv,eq_nil_of_length_eq_zero->ajw,drop_length->ajx,drop_eq_nil_iff->ajy,any_map->ajz
open List.Sublist renaming map->Jv
open List.cons renaming inj->Jt
open Nat renaming le_trans->aj,le_refl->aF,le_succ->aR,le_add_right->aW,le_of_eq->bA,succ_le_succ->bG,le_of_ble_eq_true->bJ,add_le_add_left->bK,zero_le->bQ,le_add_left->bY,add_le_add->cQ,add_le_add_right->dP,le_of_succ_le->eL,add_assoc->fg,add_right_comm->iW,lt_trans->j1,le_succ_of_le->j2,zero_add->kC,ble->kD,mul_le_mul_left->lA,lt_of_le_of_lt->lB,le_mul_of_pos_left->lC,add_comm->l7,not_lt->nK,mul_add->pw,lt_succ_self->pz,succ_pos->sN,le_of_succ_le_succ->sO,not_succ_le_zero->uZ,min_le_right->u3,lt_or_ge->u5,max_le->xK,succ_add->Au,succ->Av,ne_of_lt->Aw,lt_irrefl->Ax,le_of_lt->Ay,ne_of_gt->DM,succ_mul->Jf,sub_le->Jg,sub_add_cancel->Jh,repr->Ji,lt_of_lt_of_le->Jj,lt_of_lt_of_eq->Jk,le_max_left->Jl,le_antisymm->Jm,add_add_add_comm->Jn,succ_ne_self->SW,sub_eq_zero_of_le->SY,lt_succ_of_le->SZ,lt_of_not_le->S0,log2_lt->S3,toDigits->aiY,succ_lt_succ->aiZ,sub_zero->ai0,repr_inj->ai1,one_mul->ai2,not_succ_le_self->ai3,mul_le_mul_right->ai4,min_le_left->ai5,lt_of_le_of_ne->ai6,le_max_right->ai7,eq_of_beq_eq_true->ai8,beq->ai9
open Nat.succ renaming inj->DL
open Option renaming some->ab,none->aw,map->gv,map_eq_some_iff->sJ,isSome->sM,isSome_iff_exists->uY,eq_none_iff_forall_ne_some->xJ,bind_eq_some_iff->SV,noConfusion->aiU,map_some->aiV,isNone_iff_eq_none->aiW,bind_some->aiX
open Option.some renaming inj->cq
open PUnit renaming unit->SU
open Prod renaming fst->fK,snd->iV
open Prod.mk renaming inj->j0
open PyProof.Rows renaming callWith_type1->DJ,callWith_builtin1->DK,assignInOrder_cons->SR,slot_tuple_getitem->aiQ,slicePart_none->aiR,extend_door->aiS,evalArgs_none->aiT,tupleItemsOf_->akq,truthy_tuple->akr,truthy_none->aks,text_ofNat->akt,sub_int->aku,slicePart_int->akv,reads_tuple_inv->akw,reads_str_inv->akx,reads_none_inv->aky,reads_list_inv->akz,reads_int_inv->akA,reads_bool_inv->akB,readsAll_nil_inv->akC,readsAll_cons_inv->akD,pow_int->akE,mul_int->akF,mod_int'->akG,lt_int->akH,len_tuple->akI,le_int->akJ,int_sign->akK,gt_int->akL,getItem_tuple->akM,floordiv_int->akN,entry_tuple_getitem->akO,digits10_le->akP,charAt_isSome->akQ,callWith_def->akR,assignInOrder_nil->akS,args_tuple_getitem->akT,add_str->akU,add_int->akV
open PyProof.Rows.Reads renaming keeps->akW
open PySem renaming Str->aq,Value->aB,Heap->aI,Addr->aP,wpAny->aT,Expr->aX,wpAny_bind->aY,Shared->aZ,model->bH,wpAny_pure->b7,Program->cC,World->dv,Sem->eD,Pos->eJ,NameKind->eK,eval->eR,Env->ff,wpAny_mono->fq,Stmt->fI,Around->fJ,Scope->gR,strKind->iT,exec->iU,sysModules->jl,sizeLine->jm,wpAny_standAt->jW,binaryOp->jX,assign->jY,wpAny_holding->kB,Tok->mR,cellsFrom->ph,Obj->pj,IsPart->pq,starEach->qV,holding->qW,compareOp->qX,DefRec->qY,wpAny_of_eq->sF,getItem->sG,wpAny_loadPart'->uS,truthy->uT,stored->uU,rawInt->uV,backTo->uW,wpAny_field->xB,wpAny_call_entry->xC,seqIndex?->xD,merged->xE,KeyKind->xG,Flow->xH,wpAny_newObj_type->Aj,wpAny_items_cons->Ak,valueAt->Al,slot_list_getitem->Am,reprQuote->An,execs->Ao,compEnv->Ap,call_meets->Aq,wpAny_rule->Dp,wpAny_callSpecial?_slot->Dq,wpAny_Constant_str->Dr,unpackItems->Ds,swapsWith->Dt,strKind_is->Du,pyNext->Dv,pyIter->Dw,mainGlobals->Dx,cellOf->Dy,bootBuiltins->Dz,Params->DG,wpAny_updateSeq->IE,wpAny_specialOf->IF,wpAny_pyIter_tuple->IG,wpAny_items_nil->IH,wpAny_assign_Name->II,treeTable->IJ,subDict->IL,storeName->IM,standAt->IP,setItem->IQ,reprText->IS,newObj->IT,intKind->IU,field->IV,evalPart->IW,constantsAlone->IX,compEnvC->IY,bindL->IZ,bindC->I0,assignEach->I1,OsState->I3,Model->I5,Keyword->I6,wpAny_truthy_bool->RW,wpAny_sequenceKey->RX,wpAny_pyIter_enum->RY,wpAny_loadName_local->RZ,wpAny_execs_nil->R0,wpAny_dictEntries->R1,wpAny_Name->R2,wpAny_Constant_int->R3,typeLookup->R4,typeIs_str->R5,strLen_append->R6,spliced->R7,slot_list_append->R8,sliceBounds->R9,sizeLine_eq->Sf,newTuple->Si,newList->Sj,merged_nil_of_nodup->Sk,mergeMapping->Sl,importedModules->Sm,evalEach->So,dictPut->Sq,codeAny->Sr,clipAt_cast->Su,callWith->Sv,builtinsNs->Sw,behindInMarks->SA,assignAll->SD,wpAny_unpackItems_tuple->ahw,wpAny_typeOf->ahx,wpAny_tests_one->ahy,wpAny_setItem_pairs->ahz,wpAny_setField->ahA,wpAny_seqItems->ahB,wpAny_seqItemAt->ahC,wpAny_pyNext_list_item->ahD,wpAny_pyNext_list_end->ahE,wpAny_pyIter_list->ahF,wpAny_newFunctionEnv->ahG,wpAny_isTrue_Compare1->ahH,wpAny_getItem_of->ahI,wpAny_getItem_list_slice->ahJ,wpAny_forIn_list->ahK,wpAny_dictEpoch->ahL,wpAny_bindName->ahM,wpAny_allTrue_Or_cons->ahN,wpAny_allTrue_And_cons->ahO,wpAny_UnaryOp->ahP,wpAny_Slice->ahQ,wpAny_Constant_none->ahR,wpAny_Constant_bool->ahS,wpAny_BinOp->ahT,swapsWithSole->ahU,swappedStores->ahV,subscripted->ahW,startupNames->ahX,slot_list_setitem->ahY,slot_dict_getitem->ahZ,letTemporaryGo->ah0,keywordEach->ah1,interactive->ah2,firstArgMember->ah3,evalPart_none->ah4,entry_list_append->ah5,dictDisplay->ah6,concat_meets->ah7,comprehension->ah8,codeAny_compStart_list->ah9,attributeBase->aia,assignInOrder->aib,arm_exec_Assign->aic,arm_eval_Tuple->aid,arm_assign_Tuple->aie,args_list_append->aif,IsRangeIter->aiy,Comprehension->aiL
open PySem.Builtin renaming «list.extend»->aiN
open PySem.Builtin.Int renaming intBits->akp
open PySem.Builtin.List renaming listSubscript?->Je,listTooLong->SP,listFitsIndex->SQ
open PySem.Builtin.Range renaming rangeSize->ako
open PySem.Builtin.Slice renaming slicePlaces->SO,sliceApplied->aiO,sliceAdjust->aiP,slicePartIndex->akm,sliceFields->akn
open PySem.Builtin.SmallTypes renaming nextOf->Jd
open PySem.Builtin.Str renaming strSliceIndices->xI,reprChar->Jc
open PySem.Builtin.Tuple renaming tupleItemsOf->akl
open PySem.Calls renaming docDef->SN,Name_function_global->aiM
open PySem.Challenge renaming rw_pq0851_01->DI,pw_pq0851_01->akk
open PySem.F renaming slot_tuple_iterator_next->I9,slot_list_pop->Ja,plainAttrs_list->Jb,slot_list_extend->SM,type_list_pop->aiB,slot_tuple_getitem->aiC,slot_str_getitem->aiD,slot_int_rmul->aiE,slot_dict_get->aiF,entry_tuple_iterator_next->aiG,entry_list_pop->aiH,entry_list_extend->aiI,args_tuple_iterator_next_1->aiJ,args_list_extend_2->aiK
open PySem.Heap renaming SameBut->jD,get?_push_size->lz,lt_size->sI,get?_update_self->I7,get?_push_of_some->I8,size_push->SH,ExtBut->SJ,get?->aiz
open PySem.Heap.DictOf renaming new->SK
open PySem.Heap.IsList renaming typeIs->akj
open PySem.Heap.IsSliceOf renaming new->aiA
open PySem.Heap.SameBut renaming update->DH,refl->SI
open PySem.IntMulOk renaming of_left->aki
open PySem.MeetsSeq renaming list_pop_last->akg,list_pop_at->akh
open PySem.NameKind renaming free->I4,cell->aix,noConfusion->akf
open PySem.Obj renaming mapSeq->xF,isFreed_of_dict->ait,data_mapFields->aiu,data_mapDictKeys->aiv,data_mapDict->aiw
open PySem.PyData renaming strOk->fc,int->iq,str->jn,depth->jC,eqv->jZ,depthAll->mT,bool->mU,shown->Ar,none->As,weightAll->DD,canLayAll0->DF,eqvAll->SG,tuple->aip,shownAll->aiq,showableAll->air,leavesShortAll->ais
open PySem.Str renaming ofString->fU,join->mS
open PySem.Value renaming ref->sH,none->uX,bool->DC,isStrOf_shape->aio
open PySem.Value.ref renaming inj->SF
open PySem.W.Fast renaming tw3399658132070893891->DA,te3399658132070893891->I2,tw821141287760084731->aih,tw694669760492028198->aii,tw4354255287344443571->aij,tw3247288618530077131->aik,tw210736558901404530->ail,tw1571739515156823405->aim,te821141287760084731->ain,tw9446332074065402090->ajV,tw4187177175401517315->ajW,tw2436336058641802641->ajX,tw17960256430627541270->ajY,tw14364793385576792824->ajZ,tw12908688711261696721->aj0,tw11892475500146522536->aj1,tw10156331382660048174->aj2,te9446332074065402090->aj3,te7409074990110511671->aj4,te694669760492028198->aj5,te4354255287344443571->aj6,te4187177175401517315->aj7,te3247288618530077131->aj8,te210736558901404530->aj9,te1571739515156823405->aka,te14364793385576792824->akb,te13664370479719496447->akc,te11892475500146522536->akd,te10156331382660048174->ake
open String renaming toList_inj->ahv
open _root_ renaming List->af,Nat->ai,congrArg->ay,Bool->az,Option->aD,Int->aH,if_pos->a9,if_neg->br,Array->cT,absurd->dk,of_decide_eq_true->eV,decide_eq_true->gQ,eq_of_beq->uQ,decide_eq_false->uR
namespace Mine
open PySem
noncomputable section
theorem aa{p:Prop}[Decidable p](h:decide p=true:=by rfl):p:=of_decide_eq_true h
section
open PySem.W PyProof.Rows
section
noncomputable def Bg(p:cC)(w:dv):ai->SharedT->Thread->aD SharedT
 |0,_,_=>aw|n+1,s,t=>match through t with
  |true=>ab s|false=>match stepOk 11 (ab<|.ref 6) t with
   |false=>aw|true=>match aj2 (aj1 ajZ) p w s t with
    |some x=>Bg p w n x.1 x.2|none=>aw
noncomputable def UT(l:af pj):BT:=(l.foldl (λx o=>(x.1.ins x.2 o,x.2+1)) (BT.nil,0)).1
def QV(P:DG)(os:I3):SharedT:=⟨UT (boot_heap P).objs.toList,11,(boot_heap P).life,#[],boot_drawn,boot_toks,os⟩
def Q2(p:cC)(w:dv)(os:I3):aD SharedT:=Bg p w 2700 (QV w.params os) (topStub p)
def Is(p:cC){α:Type}(F:DG->aZ->α)(x:α):Prop:=∀w:dv,(λos=>(Q2 p w os).map λs=>F w.params s.abs)=λ_=>ab x
noncomputable def pv:cC:=akk
def qv:cC:=view pv ((jE 76).filter λi=>!([0,3,11,45].contains i))
noncomputable abbrev Sn(q:cC)(s:aZ):=ajW q [] (Sm pv.main.body) (λ_=>ae) ae s
end
theorem KP{p:cC}{w:dv}:∀{n:ai}{s r:SharedT}{t:Thread},Bg p w n s t=ab r->topRun IJ p w 11 (ab<|.ref 6) n s.abs t=ab r.abs
 |0,_,_,_,h=>nomatch h|n+1,s,r,t,h=>by
  unfold Bg at h
  unfold topRun
  revert h
  cases through t with
  |true=>exactλh=>ay ab (ay SharedT.abs<|cq h)|false=>
   cases stepOk 11 (ab<|.ref 6) t with
   |false=>exactλh=>nomatch h|true=>
    rw[<-ake,<-akd,<-akb]
    cases hs:stepT (denote IJ) p w s t with
    |none=>exactλh=>nomatch h|some x=>exactλh=>(show step (denote IJ) p w s.abs t=.go x.1.abs x.2 from stepT_spec hs)▸KP h
theorem afo(P:DG)(os:I3):(QV P os).abs=⟨boot_heap P,#[],boot_drawn,boot_toks,os⟩:=by kernel_rfl
theorem Ib(P:DG):((boot_heap P).isNs Dx&&(#[]:cT GenState).size==0,(boot_heap P).objs.size,(boot_heap P).nsMap Dx "__annotations__")=(ae,11,ab<|.ref 6):=by kernel_rfl
theorem Zv:opening pv=plainProg pv.main.scope.names:=by kernel_rfl
theorem adm(s:aZ):fenceModules? pv s=ab s:=by kernel_rfl
theorem Is.at{p:cC}{α:Type}{F:DG->aZ->α}{x:α}(h:Is p F x){w:dv}{os:I3}{r:SharedT}(e:Q2 p w os=ab r):F w.params r.abs=x:=by
 have h:=congrFun (h w) os
 rw[e] at h
 exact cq h
theorem QT:Is pv (λP s=>(staticsOk (Sm pv.main.body) (boot_heap P) s.heap&&namesBound pv s.heap&&gensDone s&&laidKept (boot_heap P) s.heap,(Sn qv s).2.1,(Sn qv s).2.2.2.2.1,(Sn qv s).2.2.2.2.2.2.1,(Sn qv s).2.2.2.2.2.2.2.2)) (ae,bltViewBooted,((aik qv).map λd=>ab d.1.shape,ae),(aij qv []).map λc=>ab (c.plainShape,ae),(aim qv []).map λc=>(wclsGood c,(ab (c.plainShape,ae):aD (PlainShape×az)))):=λw=>by kernel_rfl
theorem QS:Is pv (λ_ s=>(Sn qv s).1) ⟨(DA qv).map λd=>ab d.shape,ae,[],ae,ae,ae,0⟩:=λw=>by kernel_rfl
theorem c_3:Is pv (λ_ s=>((Sn qv s).2.2.1,(Sn qv s).2.2.2.1)) (ae,ae):=λw=>by kernel_rfl
theorem c_6:Is pv (λ_ s=>((Sn qv s).2.2.2.2.2.1,(Sn qv s).2.2.2.2.2.2.2.1)) ((ail qv<|aih qv []).map λc=>ab c.withCmp.plainShape,((aii qv).map λd=>ab d.1.shape,ae)):=λw=>by kernel_rfl
theorem T6:expectedOf qv=⟨(DA qv).map λd=>ab d.shape,ae,[],ae,ae,ae,0⟩:=by rw[<-I2];rfl
theorem T5:pinGoodD (drecsOf qv)=((aik qv).map λd=>ab d.1.shape,ae):=by rw[<-aj8];rfl
theorem T4:plainGoodE qv (looseW qv [])=(ail qv<|aih qv []).map λc=>ab c.withCmp.plainShape:=by rw[<-aj9,<-ain];rfl
theorem T3:plainGoodD qv []=(aij qv []).map λc=>ab (c.plainShape,ae):=by rw[<-aj6];rfl
theorem TZ:wideGood qv=((aii qv).map λd=>ab d.1.shape,ae):=by rw[<-aj5];rfl
theorem TY:clsGoodW qv []=(aim qv []).map λc=>(wclsGood c,(ab (c.plainShape,ae):aD (PlainShape×az))):=by rw[<-aka];rfl
theorem left:LeftO pv qv [] (λ_=>ae) (λ_=>()) (λ_=>()) 5398:=λw=>by
 obtain⟨⟨h,gs,d,k,os⟩,e1,e2⟩:=sJ.mp (boot_open Zv (N:=5398) rfl adm w)
 obtain⟨rfl,rfl,rfl,rfl⟩:h=boot_heap w.params/\gs=#[]/\d=boot_drawn/\k=boot_toks:=by simpa using e2
 obtain⟨r,r1,_⟩:=sJ.mp (congrFun (QS w) os)
 have t:=topRun_mono 2698 _ _ _ _ (KP r1)
 rw[afo] at t
 have e3:topFrom IJ pv w 5398 ⟨boot_heap w.params,#[],boot_drawn,boot_toks,os⟩=ab r.abs:=by
  unfold topFrom
  dsimp only
  rw[(j0<|Ib w.params).1,(j0 (j0<|Ib w.params).2).1,(j0 (j0<|Ib w.params).2).2,t]
  dsimp only [aiX]
  rw[(j0<|QT.at r1).1]
 unfold openEnds
 rw[e1,aiX,e3]
 refine ay ab (Prod.ext ?_ rfl)
 show openSeen qv [] (Sm pv.main.body) (λ_=>ae) ae r.abs=openGood qv []
 rw[aj7]
 have k0:=j0 (j0<|QT.at r1).2
 have k5:=j0 k0.2
 have k7:=j0 k5.2
 have k3:=j0 (c_3.at r1)
 have k6:=j0 (c_6.at r1)
 exact Prod.ext ((QS.at r1).trans T6.symm) (Prod.ext k0.1<|Prod.ext k3.1 (Prod.ext k3.2<|Prod.ext (k5.1.trans T5.symm) (Prod.ext (k6.1.trans T4.symm)<|Prod.ext (k7.1.trans T3.symm) (Prod.ext (k6.2.trans TZ.symm)<|k7.2.trans TY.symm))))
end
section
open PySem.W
theorem WS:OpenLaw.wellSaid DI=ae:=by
 rw[aj3]
 delta ajV ajY ajX aj0
 repeat' with_reducible refine look_both ?_ ?_
 all_goals decide+kernel
end
noncomputable abbrev V:=PyData
inductive bP where
 |cA
 |ah (xs:af V)
 |fb (bc:af (aq×V))
 |jg (bc:af (aH×V))
 |st (vars:af (aq×V)) (bM:af V) (cW b8:aH)
inductive MV where
 |val (d:V)
 |own (r:bP)
 |ref (i:ai)
 |vars (i:ai)
 |bM (i:ai)
noncomputable abbrev Rs:=af bP
noncomputable abbrev Vs:=af (aD MV)
inductive Ai where
 |add|sub|mul|fdiv|jR
inductive uP where
 |eq|ne|lt|le|gt|is|kh|dt|lJ
inductive Bi where
 |len|list|tuple|n5|uh|qq|sum|rA|repr|str
inductive Me where
 |append|kU|p9|nW|nr|join
inductive IK where
 |plain|range|nz
inductive Tg where
 |name (i:ai)
 |aC (is:af ai)
inductive X where
 |var (i:ai)
 |lit (d:V)
 |bq (o:Ai) (l r:X)
 |neg (e:X)
 |not (e:X)
 |cw (s:az) (es:af X)
 |ite (t a b:X)
 |au (o:uP) (l r:X)
 |aC (es:af X)
 |ah (es:af X)
 |fb (ks:af aq) (es:af X)
 |jg (ks:af aH) (es:af X)
 |xj (bc:af (aq×V))
 |yq (es:af X)
 |aK (e i:X)
 |dU (e lo hi:X)
 |vV (e k:X)
 |call (f:ai) (args:af X)
 |bi (b:Bi) (e:X)
 |bw (m:Me) (o:X) (args:af X)
 |comp (elt:X) (ni:ai) (tg:Tg) (k:IK) (it cond:X)
 |tY (e:X)
inductive ST where
 |expr (e:X)
 |aN (i:ai) (e:X)
 |nG (is:af ai) (e:X)
 |lU (i j:ai) (a b:X)
 |nH (o i e:X)
 |xp (o i e:X)
 |ite (t:X) (a b:af ST)
 |cM (t:X) (b:af ST)
 |for (tg:Tg) (k:IK) (e:X) (b:af ST)
 |ret (e:X)
 |brk
 |cont
 |m8
inductive Fl where
 |nx|bk|ct
 |rt (m:MV)
abbrev Dd:=ai->Rs->af V->MV->Rs->Prop
noncomputable def fo(rs:Rs)(i:ai):bP:=rs.getD i .cA
noncomputable def bh(ms:af MV):aD MV:=match ms with
 |[]=>aw|a::ms=>match ms with
  |[]=>ab a|_::_=>aw
def bU(ms:af MV):aD (MV×MV):=match ms with
 |[]=>aw|a::ms=>(bh ms).map (a,·)
noncomputable def zero:af MV->aD Unit
 |[]=>ab ()|_=>aw
noncomputable def fz:MV->aD V
 | .val d=>ab d|_=>aw
noncomputable def ic:V->aD aH
 | .int i=>ab i|_=>aw
noncomputable def lE:V->aD aq
 | .str s=>ab s|_=>aw
noncomputable def rR:V->aD (af V)
 | .list xs=>ab xs|_=>aw
noncomputable def mx:bP->aD (af V)
 | .ah xs=>ab xs|_=>aw
noncomputable def kK:bP->aD (af (aq×V)×af V)
 | .st vs l _ _=>ab (vs,l)|_=>aw
def wR(o:MV)(rs:Rs):aD (ai×af V):=match o with
 | .ref j=>(mx<|fo rs j).map (j,·)|_=>aw
def N6(o:MV)(rs:Rs):aD (ai×af V):=match o with
 | .bM j=>(kK<|fo rs j).map λp=>(j,p.2)
 |_=>aw
def A9(o:MV)(rs:Rs):aD (ai×af (aq×V)):=match o with
 | .vars j=>(kK<|fo rs j).map λp=>(j,p.1)
 |_=>aw
noncomputable def rY:V->aD (af V)
 | .list xs=>ab xs| .tuple xs=>ab xs|_=>aw
noncomputable def Bp:bP->aD (af (aq×V)×af V×aH×aH)
 | .st vs l t s=>ab (vs,l,t,s)|_=>aw
noncomputable def sz{α:Type}(n:ai)(a:α):aD α:=if n<=100000 then ab a else aw
def jr(m:MV)(rs:Rs):aD (V×Rs):=match m with
 | .val d=>ab (d,rs)| .own r=>(mx r).map λxs=>(.list xs,rs)
 | .ref i=>(mx<|fo rs i).map λxs=>(.list xs,rs.set i .cA)
 | .bM i=>(kK<|fo rs i).map λp=>(.list p.2,rs.set i .cA)
 | .vars _=>aw
noncomputable def sY:af MV->Rs->aD (af V×Rs)
 |[],rs=>ab ([],rs)|m::ms,rs=>(jr m rs).bind λp=>(sY ms p.2).map λq=>(p.1::q.1,q.2)
def view(m:MV)(rs:Rs):aD V:=match m with
 | .val d=>ab d| .own r=>(mx r).map .list| .ref i=>(mx<|fo rs i).map .list| .bM i=>(kK<|fo rs i).map λp=>.list p.2| .vars _=>aw
def KO:V->aD az
 | .none=>ab ag| .bool b=>ab b| .int i=>ab (i !=0)| .str s=>sz s.length (s.length !=0)| .list xs=>sz xs.length !xs.isEmpty| .tuple xs=>sz xs.length !xs.isEmpty| .dict _=>aw
def fM(m:MV)(rs:Rs):aD az:=(view m rs).bind KO
noncomputable def ED:V->aD (af V)
 | .tuple xs=>ab xs|_=>aw
def RI(x y:V):aD MV:=match x with
 | .int a=>(ic y).map λb=>.val (.int<|a+b)| .str a=>(lE y).bind λb=>sz (a.length+b.length) (.val<|.str (a++b))| .tuple a=>(ED y).bind λb=>sz (a.length+b.length) (.val<|.tuple (a++b))| .list a=>(rR y).bind λb=>sz (a.length+b.length) (.own<|.ah (a++b))|_=>aw
noncomputable def xo:V->aD az
 | .bool b=>ab b|_=>aw
def MX:af V->aD az
 |[]=>aw|x::r=>match r with
  |[]=>xo x|_::_=>aw
def NG(x:V)(b:aH):aD MV:=match x with
 | .int a=>if a.natAbs<=100000/\b.natAbs<=100000 then ab (.val<|.int (a*b)) else aw| .list xs=>(MX xs).bind λc=>if 0<=b/\b<=100000 then ab (.val<|.list (eW b.toNat<|.bool c)) else aw|_=>aw
def ky(o:Ai)(a b:V):aD MV:=
 match o with
 | .add=>RI a b| .sub=>(ic b).bind λy=>(ic a).map λx=>.val (.int<|x-y)| .mul=>(ic b).bind λy=>NG a y| .fdiv=>(ic b).bind λy=>(ic a).bind λx=>if 0<y/\y<=1000000 then ab (.val<|.int (x/y)) else aw| .jR=>(ic b).bind λy=>(ic a).bind λx=>if 0<y then ab (.val<|.int (x%y)) else aw
noncomputable def ny(a b:V):aD az:=if min a.depth b.depth<=100 then ab (jZ a b) else aw
def zq(a c:V):aD az:=(rY c).bind λxs=>if min (mT xs) a.depth<=100 then ab (xs.any λy=>jZ y a) else aw
noncomputable def BW:V->az
 | .none=>ae|_=>ag
def GO(m:MV)(d:V):aD az:=
 match d with
 | .none=>ab ((fz m).any BW)| .bool b=>ab (((fz m).bind xo).any (b==·))|_=>aw
def qL{α:Type}(a b:MV)(rs:Rs)(f:V->V->aD α):aD α:=(view a rs).bind λx=>(view b rs).bind λy=>f x y
def Cp(f:aH->aH->az)(x y:V):aD az:=(ic x).bind λi=>(ic y).map (f i)
def cv(o:uP)(a b:MV)(rs:Rs):aD az:=
 match o with
 | .eq=>qL a b rs ny| .ne=>qL a b rs λx y=>(ny x y).map (!·)| .lt=>qL a b rs (Cp λi j=>decide (i<j))| .le=>qL a b rs (Cp λi j=>decide (i<=j))| .gt=>qL a b rs (Cp λi j=>decide (i>j))| .is=>(fz b).bind (GO a)| .kh=>(fz b).bind λd=>(GO a d).map (!·)| .dt=>qL a b rs zq| .lJ=>match b with
  | .vars i=>(fz a).bind λd=>(lE d).bind λs=>(kK<|fo rs i).map λp=>!(p.1.any λp=>p.1==s)|_=>qL a b rs λx y=>(zq x y).map (!·)
noncomputable def lI(i:aH)(n:ai):aD ai:=if 100000<n then aw else xD i n
theorem BL{k:aH}{n:ai}(h0:0<=k)(h1:k<n)(hz:n<=100000):lI k n=ab k.toNat:=
 (br<|nK.mpr hz).trans (by
  show(if(decide (0<=(if k<0 then k+(n:aH) else k))&&decide ((if k<0 then k+(n:aH) else k)<(n:aH)))=ae then ab (if k<0 then k+(n:aH) else k).toNat else aw)=ab k.toNat
  rw[br<|DV.mpr h0]
  exact a9<|dc.mpr ⟨gQ h0,gQ h1⟩)
noncomputable def ze:aq:=⟨#[118,97,114,115]⟩
noncomputable def zg:aq:=⟨#[108,111,103]⟩
noncomputable def rW:aq:=⟨#[116,117,114,110]⟩
noncomputable def zf:aq:=⟨#[115,101,101,100]⟩
def OX(a:V)(k:aH):aD V:=match a with
 | .tuple xs=>(lI k xs.length).bind λj=>xs[j]?| .list xs=>(lI k xs.length).bind λj=>xs[j]?| .str s=>(lI k s.length).bind λj=>(s.cps[j]?).map λc=>.str ⟨#[c]⟩|_=>aw
def Cr(a:V)(i:V):aD V:=
 match i with
 | .int k=>OX a k| .bool b=>(rR a).bind λxs=>xs[(if b then 1 else 0:ai)]?|_=>aw
def Ld(j:ai)(cW b8:aH)(s:aq):aD MV:=if s=ze then ab (.vars j) else if s=zg then ab (.bM j) else if s=rW then ab (.val<|.int cW) else if s=zf then ab (.val<|.int b8) else aw
def zr(r:bP)(j:ai)(i:V):aD MV:=
 match r with
 | .cA=>aw| .ah xs=>(Cr (.list xs) i).map .val| .fb bc=>(lE i).bind λs=>(bc.lookup s).map .val| .jg bc=>(ic i).bind λk=>(bc.lookup k).map .val| .st _ _ cW b8=>(lE i).bind (Ld j cW b8)
noncomputable def FX:bP->az
 | .st ..=>ag|_=>ae
def e9(a:MV)(i:V)(rs:Rs):aD MV:=
 match a with
 | .val d=>(Cr d i).map .val| .own r=>match FX r with
  |true=>zr r 0 i|false=>aw
 | .ref j=>zr (fo rs j) j i| .vars j=>(kK<|fo rs j).bind λp=>(lE i).bind λs=>(p.1.lookup s).map .val| .bM _=>aw
noncomputable def fj{α:Type}(xs:af α)(lo hi:aD aH):af α:=
 (xs.drop<|lo.elim 0 (clipAt xs.length)).take (hi.elim xs.length (clipAt xs.length)-lo.elim 0 (clipAt xs.length))
noncomputable def Ic:V->aD (aD aH)
 | .none=>ab aw| .int i=>ab (ab i)|_=>aw
def tj(a:V)(lo hi:aD aH):aD MV:=
 match a with
 | .tuple xs=>sz xs.length (.val<|.tuple (fj xs lo hi))| .list xs=>sz xs.length (.own<|.ah (fj xs lo hi))| .str s=>sz s.length (.val<|.str ⟨(fj s.cps.toList lo hi).toArray⟩)|_=>aw
noncomputable def GJ(k n:ai):af ai:=sliceRange (R9 (ab (k:aH)) aw (ab 4) n).1 (R9 (ab (k:aH)) aw (ab 4) n).2.1 (R9 (ab (k:aH)) aw (ab 4) n).2.2
def kr{α:Type}(k:ai)(xs:af α):af α:=(GJ k xs.length).filterMap (xs[·]?)
noncomputable def zo:af V->aD (af aH)
 |[]=>ab []|d::r=>(ic d).bind λi=>(zo r).map (i::·)
noncomputable def sZ:af V->aD (af aq)
 |[]=>ab []|d::r=>(lE d).bind λs=>(sZ r).map (s::·)
noncomputable def nj(a b:aq):az:=!Spec.ltCps b.cps.toList a.cps.toList
def ti(l:af aq):af aq:=l.mergeSort nj
noncomputable def Oa:V->aD ai
 | .list xs=>ab xs.length| .tuple xs=>ab xs.length| .str s=>ab s.length|_=>aw
noncomputable def Cn:V->az
 | .tuple _=>ae|_=>ag
noncomputable def OM:V->az
 | .int _=>ae| .bool _=>ae|_=>ag
noncomputable def GR:V->az
 | .str _=>ae|_=>ag
def gY(b:Bi)(a:V):aD MV:=
 match b with
 | .len=>(Oa a).bind λn=>sz n (.val<|.int n)| .list=>(rY a).bind λxs=>sz xs.length (.own<|.ah xs)| .tuple=>match a with
  | .list xs=>sz xs.length (.val<|.tuple xs)| .tuple xs=>ab (.val<|.tuple xs)|_=>aw
 | .n5=>ab (.val<|.bool (Cn a))| .uh=>ab (.val<|.bool (OM a))| .qq=>ab (.val<|.bool (GR a))| .sum=>(rR a).bind λxs=>(zo xs).map λns=>.val (.int ns.sum)| .rA=>(rR a).bind λxs=>if xs.length<64 then(sZ xs).map λys=>.own (.ah<|(ti ys).map .str) else aw| .repr=>if a.showable&&decide (a.shown.length<=16777216)&&decide (a.depth<=100) then ab (.val<|.str a.shown) else aw| .str=>(ic a).bind λi=>if i.natAbs.log2<1920 then ab (.val<|.str (fU<|toString i)) else aw
noncomputable def i8(bc:af (aq×V))(k:aq)(v:V):af (aq×V):=
 if bc.any (λkv=>kv.1=k) then bc.map (λkv=>if kv.1=k then(kv.1,v) else kv) else bc++[(k,v)]
def LD(r:bP)(j:ai)(i d:V)(rs:Rs):aD Rs:=
 match r with
 | .ah xs=>(ic i).bind λk=>if 0<=k then(lI k xs.length).map λp=>rs.set j (.ah<|xs.set p d) else aw| .st vs l _ b8=>(lE i).bind λs=>(ic d).bind λt=>if s=rW then ab (rs.set j<|.st vs l t b8) else aw|_=>aw
def rC(o:MV)(i d:V)(rs:Rs):aD Rs:=
 match o with
 | .ref j=>LD (fo rs j) j i d rs| .vars j=>(Bp<|fo rs j).bind λq=>(lE i).bind λs=>sz q.1.length (rs.set j<|.st (i8 q.1 s d) q.2.1 q.2.2.1 q.2.2.2)|_=>aw
def mN(o:MV)(ds:af V)(rs:Rs):aD Rs:=
 match o with
 | .ref j=>(mx<|fo rs j).bind λxs=>sz (xs.length+ds.length) (rs.set j<|.ah (xs++ds))| .bM j=>(Bp<|fo rs j).bind λq=>sz (q.2.1.length+ds.length) (rs.set j<|.st q.1 (q.2.1++ds) q.2.2.1 q.2.2.2)|_=>aw
def iQ(m:Me)(o:MV)(args:af MV)(rs:Rs):aD (MV×Rs):=
 match m with
 | .append=>(bh args).bind λa=>(jr a rs).bind λp=>(mN o [p.1] p.2).map λrs=>(.val .none,rs)
 | .kU=>(bh args).bind λa=>(view a rs).bind λd=>(rY d).bind λds=>(mN o ds rs).map λrs=>(.val .none,rs)
 | .p9=>(zero args).bind λ_=>(wR o rs).bind λp=>if p.2.length<=100000 then p.2.getLast?.map λx=>(.val x,rs.set p.1<|.ah p.2.dropLast) else aw| .nW=>(bh args).bind λa=>(fz a).bind λd=>(ic d).bind λk=>(wR o rs).bind λp=>if p.2.length<=100000/\0<=k then(p.2[k.toNat]?).map λx=>(.val x,rs.set p.1<|.ah (p.2.eraseIdx k.toNat)) else aw| .nr=>(bU args).bind λq=>(fz q.1).bind λa=>(lE a).bind λs=>(fz q.2).bind λd=>(A9 o rs).map λp=>(.val ((p.2.lookup s).getD d),rs)
 | .join=>(bh args).bind λa=>(fz o).bind λb=>(lE b).bind λsep=>(view a rs).bind λd=>(rR d).bind λxs=>(sZ xs).bind λys=>if(ys.map (·.length)).sum+ys.length<=100000/\sep.length<=16 then ab (.val (.str<|mS sep ys),rs) else aw
def Gz(m:Me)(o:MV)(rs:Rs):az:=
 match m with
 | .append=>(wR o rs).isSome||(N6 o rs).isSome| .nr=>(A9 o rs).isSome| .join=>((fz o).bind lE).isSome|_=>(wR o rs).isSome
def GD(a:MV)(rs:Rs):aD MV:=(A9 a rs).bind λp=>
 if p.2.all (λp=>p.1.length !=0&&(fc p.1&&decide (p.1.length<=100000)))&&decide (p.2.length<=100000) then ab (.own<|.ah ((p.2.map (·.1)).filterMap λs=>if s.cps[0]?=ab 35 then aw else ab (.str s))) else aw
noncomputable def live:bP->aD bP
 | .cA=>aw|r=>ab r
inductive Hd where
 |vO (r:bP) (b:aD ai)
 |value (d:V)
def acJ(b:az)(m:MV)(rs:Rs):aD (Hd×Rs):=match b with
 |false=>(jr m rs).map λp=>(.value p.1,p.2)
 |true=>match m with
  | .ref i=>(live<|fo rs i).map λr=>(.vO r (ab i),rs.set i .cA)
  | .own r=>(live r).map λr=>(.vO r aw,rs)
  |_=>aw
abbrev Pd:=Rs×Rs×af V×af (aD ai)
noncomputable def Hd.bI(h:Hd)(p:Pd):Pd:=match h with
 | .vO r b=>(r::p.1,p.2.1,p.2.2.1,b::p.2.2.2)
 | .value d=>(p.1,p.2.1,d::p.2.2.1,p.2.2.2)
noncomputable def KJ:af MV->aD (MV×af MV)
 |[]=>aw|m::ms=>ab (m,ms)
noncomputable def FF:af az->af MV->Rs->aD Pd
 |[],ms,rs=>(zero ms).map λ_=>([],rs,[],[])
 |b::bs,ms,rs=>(KJ ms).bind λq=>(acJ b q.1 rs).bind λh=>(FF bs q.2 h.2).map h.1.bI
noncomputable def YJ(b:aD ai)(r:bP)(rs:Rs):Rs:=match b with
 |some i=>rs.set i r|none=>rs
noncomputable def Fz:af (aD ai)->Rs->Rs->Rs
 |[],_,rs=>rs|b::bs,own,rs=>match own with
  |[]=>rs|r::own=>Fz bs own (YJ b r rs)
noncomputable def rk:bP->ai
 | .cA=>0| .ah _=>1| .fb _=>2| .jg _=>3| .st ..=>4
def LO(r r':bP):az:=ai9 (rk r') 0||ai9 (rk r) (rk r')
noncomputable def tq:Rs->Rs->az
 |[],rs=>rs.isEmpty|r::rs,cj=>match cj with
  |[]=>ag|r'::cj=>LO r r'&&tq rs cj
noncomputable def Ey:MV->az
 | .val _=>ae| .own r=>match r with
  | .cA=>ag|_=>ae
 |_=>ag
def hO:Tg->V->Vs->aD Vs
 | .name i,d,vs=>ab (vs.set i<|ab (.val d))| .aC is,d,vs=>match rY d with
  |some ds=>if ds.length=is.length then ab ((is.zip ds).foldl (λvs p=>vs.set p.1<|ab (.val p.2)) vs) else aw|none=>aw
noncomputable def hV(i:ai)(m:MV)(rs:Rs)(vs:Vs):Rs×Vs:=
 match m with
 | .own r=>(rs++[r],vs.set i<|ab (.ref rs.length))
 |m=>(rs,vs.set i<|ab m)
def t8(k:IK)(m:MV)(rs:Rs):aD (af V×Rs):=
 match k with
 | .range=>(fz m).bind λd=>(ic d).bind λn=>if 0<=n/\n<=100000 then ab ((jE n.toNat).map λ(i:ai)=>iq (i:aH),rs) else aw| .plain=>(jr m rs).bind λp=>(rY p.1).map λxs=>(xs,p.2)
 | .nz=>(jr m rs).bind λp=>(rY p.1).map λxs=>(xs.zipIdx.map λp=>.tuple [.int p.2,p.1],p.2)
inductive qU where
 |tr (n:ai) (c:az)
 |au (n:ai) (c:az)
 |bq (n:ai) (m:MV)
 |aK (n:ai) (m:MV)
 |dU (n:ai) (m:MV)
 |bi (n:ai) (m:MV)
 |bw (n:ai) (m:MV) (rs:Rs)
 |set (n:ai) (rs:Rs)
 |call (m:MV) (own:Rs)
 |cp (ys:af V) (rs:Rs)
 |lp (fl:Fl) (rs:Rs) (vs:Vs)
noncomputable abbrev Os:=af qU
section
noncomputable def b4{α:Type}(x:aD α)(os:Os)(K:α->Os->Prop):Prop:=match x with
 |some a=>K a os|none=>False
def KQ{α:Type}(bI:ai->α->qU)(x:aD α)(os iN:Os)(K:α->Os->Prop):aD (ai×α)->Prop
 |none=>b4 x os K|some (0,a)=>x=ab a/\K a iN|some (n+1,a)=>b4 x (bI n a::iN) K
def dB{α:Type}(get:qU->aD (ai×α))(bI:ai->α->qU)(x:aD α)(os:Os)(K:α->Os->Prop):Prop:=match os with
 |[]=>b4 x os K|a::iN=>KQ bI x os iN K (get a)
def lT:=dB (λ| .tr n c=>ab (n,c)|_=>aw) .tr
def agW:=dB (λ| .au n c=>ab (n,c)|_=>aw) .au
def agX:=dB (λ| .bq n c=>ab (n,c)|_=>aw) .bq
def Rl:=dB (λ| .aK n c=>ab (n,c)|_=>aw) .aK
def Rj:=dB (λ| .dU n c=>ab (n,c)|_=>aw) .dU
def Ik:=dB (λ| .bi n c=>ab (n,c)|_=>aw) .bi
def agV:=dB (λ| .bw n m rs=>ab (n,m,rs)|_=>aw) λn p=>.bw n p.1 p.2
def Rk:=dB (λ| .set n c=>ab (n,c)|_=>aw) .set
def aab(m:MV):aD MV:=(fz m).bind λd=>(ic d).map λi=>.val (.int<|-i)
noncomputable def Qn:bP->aD (af<|aq×V)
 | .fb bc=>ab bc|_=>aw
noncomputable def FI:MV->aD bP
 | .own r=>ab r|_=>aw
def Qo(m:MV):aD (af<|aq×V):=(FI m).bind Qn
def NQ(m:MV):aD (af V):=(FI m).bind mx
def cx(ms:af MV):aD (MV×MV×MV×MV):=match ms with
 |[]=>aw|a::ms=>match ms with
  |[]=>aw|b::ms=>(bU ms).map λp=>(a,b,p)
def zp(m:MV):aD aH:=(fz m).bind ic
def Vn(ms:af MV):aD MV:=(cx ms).bind λq=>(Qo q.1).bind λbc=>(NQ q.2.1).bind λxs=>(zp q.2.2.1).bind λt=>(zp q.2.2.2).map λs=>.own (.st bc xs t s)
def V8(a l h:MV)(rs:Rs):aD MV:=(fz l).bind λl=>(fz h).bind λh=>(Ic l).bind λl=>(Ic h).bind λh=>(view a rs).bind λd=>tj d l h
def Lx(a b:MV)(rs:Rs):aD MV:=(fz b).bind λb=>(ic b).bind λk=>(view a rs).bind λd=>(rR d).bind λxs=>if(0<=k/\k<=100000)/\xs.length<=100000 then ab (.own<|.ah (kr k.toNat xs)) else aw
def RJ(a b:MV):aD V:=(zp a).bind λx=>(zp b).map λy=>.int (x+y)
noncomputable def eA(b:az):aD Unit:=match b with
 |true=>ab ()|false=>aw
noncomputable def lj(c:V->Rs->Os->(aD V->Rs->Os->Prop)->Prop):af V->Rs->Os->(af V->Rs->Os->Prop)->Prop
 |[],rs,os,K=>K [] rs os|x::xs,rs,os,K=>c x rs os λo rs os=>lj c xs rs os λys rs os=>K (match o with|some y=>y::ys|none=>ys) rs os
noncomputable def je(bf:V->Rs->Vs->Os->(Fl->Rs->Vs->Os->Prop)->Prop):af V->Rs->Vs->Os->(Fl->Rs->Vs->Os->Prop)->Prop
 |[],rs,vs,os,K=>K .nx rs vs os|x::xs,rs,vs,os,K=>bf x rs vs os λfl rs vs os=>match fl with
  | .nx=>je bf xs rs vs os K| .ct=>je bf xs rs vs os K| .bk=>K .nx rs vs os| .rt m=>K (.rt m) rs vs os
noncomputable def oG(tf:Rs->Vs->Os->(az->Rs->Os->Prop)->Prop)(bf:Rs->Vs->Os->(Fl->Rs->Vs->Os->Prop)->Prop):ai->Rs->Vs->Os->(Fl->Rs->Vs->Os->Prop)->Prop
 |0,_,_,_,_=>False|n+1,rs,vs,os,K=>tf rs vs os λc rs os=>match c with
  |false=>K .nx rs vs os|true=>bf rs vs os λfl rs vs os=>match fl with
   | .nx=>oG tf bf n rs vs os K| .ct=>oG tf bf n rs vs os K| .bk=>K .nx rs vs os| .rt m=>K (.rt m) rs vs os
noncomputable def PA:Os->aD (af V×Rs×Os)
 | .cp ys rs::os=>ab (ys,rs,os)|_=>aw
noncomputable def CE:Os->aD (Fl×Rs×Vs×Os)
 | .lp fl rs vs::os=>ab (fl,rs,vs,os)|_=>aw
def CS(c:V->Rs->Os->(aD V->Rs->Os->Prop)->Prop)(xs:af V)(rs:Rs)(os:Os)(K:af V->Rs->Os->Prop):Prop:=match PA os with
 |some q=>((∃os,lj c xs rs os λys rs _=>ys=q.1/\rs=q.2.1)/\xs.length<=100000)/\K q.1 q.2.1 q.2.2|none=>b4 (eA<|decide (xs.length<=100000)) os λ_ os=>lj c xs rs os K
def HP(bf:V->Rs->Vs->Os->(Fl->Rs->Vs->Os->Prop)->Prop)(xs:af V)(rs:Rs)(vs:Vs)(os:Os)(K:Fl->Rs->Vs->Os->Prop):Prop:=match CE os with
 |some q=>(∃os,je bf xs rs vs os λfl rs vs _=>fl=q.1/\rs=q.2.1/\vs=q.2.2.1)/\K q.1 q.2.1 q.2.2.1 q.2.2.2|none=>je bf xs rs vs os K
def Eu(tf:Rs->Vs->Os->(az->Rs->Os->Prop)->Prop)(bf:Rs->Vs->Os->(Fl->Rs->Vs->Os->Prop)->Prop)(rs:Rs)(vs:Vs)(os:Os)(K:Fl->Rs->Vs->Os->Prop):Prop:=match CE os with
 |some q=>(∃n os,oG tf bf n rs vs os λfl rs vs _=>fl=q.1/\rs=q.2.1/\vs=q.2.2.1)/\K q.1 q.2.1 q.2.2.1 q.2.2.2|none=>False
noncomputable def acZ:Os->aD (MV×Rs×Os)
 | .call m own::os=>ab (m,own,os)|_=>aw
section
variable(C:Dd)(cb:ai->aD (af az))
def QR(f:ai)(ms:af MV)(rs:Rs)(os:Os)(K:MV->Rs->Os->Prop):Prop:=
 b4 (cb f) os λbs os=>b4 (FF bs ms rs) os λp os=>b4 (acZ os) os λq _=>C f p.1 p.2.2.1 q.1 q.2.1/\b4 (eA<|Ey q.1&&tq p.1 q.2.1) q.2.2 λ_ os=>K q.1 (Fz p.2.2.2 q.2.1 p.2.1) os
mutual
noncomputable def wX:X->Rs->Vs->Os->(MV->Rs->Os->Prop)->Prop
 | .var i,rs,vs,os,K=>b4 (vs[i]?.join) os λm os=>K m rs os| .lit d,rs,_,os,K=>K (.val d) rs os| .bq o l r,rs,vs,os,K=>wX l rs vs os λa rs os=>wX r rs vs os λb rs os=>b4 (view a rs) os λx os=>b4 (view b rs) os λy os=>agX (ky o x y) os λm os=>K m rs os| .neg e,rs,vs,os,K=>wX e rs vs os λa rs os=>b4 (aab a) os λm os=>K m rs os| .not e,rs,vs,os,K=>wX e rs vs os λa rs os=>lT (fM a rs) os λb os=>K (.val<|.bool (!b)) rs os| .cw s es,rs,vs,os,K=>wB s es rs vs os K| .ite t a b,rs,vs,os,K=>wX t rs vs os λm rs os=>lT (fM m rs) os λc os=>match c with
  |true=>wX a rs vs os K|false=>wX b rs vs os K
 | .au o l r,rs,vs,os,K=>wX l rs vs os λa rs os=>wX r rs vs os λb rs os=>agW (cv o a b rs) os λc os=>K (.val<|.bool c) rs os| .aC es,rs,vs,os,K=>mZ es rs vs os λms rs os=>b4 (sY ms rs) os λp os=>K (.val<|.tuple p.1) p.2 os| .ah es,rs,vs,os,K=>mZ es rs vs os λms rs os=>b4 (sY ms rs) os λp os=>K (.own<|.ah p.1) p.2 os| .fb ks es,rs,vs,os,K=>mZ es rs vs os λms rs os=>b4 (sY ms rs) os λp os=>K (.own<|.fb (ks.zip p.1)) p.2 os| .jg ks es,rs,vs,os,K=>mZ es rs vs os λms rs os=>b4 (sY ms rs) os λp os=>K (.own<|.jg (ks.zip p.1)) p.2 os| .xj bc,rs,_,os,K=>K (.own<|.fb bc) rs os| .yq es,rs,vs,os,K=>mZ es rs vs os λms rs os=>b4 (Vn ms) os λm os=>K m rs os| .aK e i,rs,vs,os,K=>wX e rs vs os λa rs os=>wX i rs vs os λb rs os=>b4 (fz b) os λd os=>Rl (e9 a d rs) os λm os=>K m rs os| .dU e lo hi,rs,vs,os,K=>wX e rs vs os λa rs os=>wX lo rs vs os λl rs os=>wX hi rs vs os λh rs os=>Rj (V8 a l h rs) os λm os=>K m rs os| .vV e k,rs,vs,os,K=>wX e rs vs os λa rs os=>wX k rs vs os λb rs os=>Rj (Lx a b rs) os λm os=>K m rs os| .call f args,rs,vs,os,K=>mZ args rs vs os λms rs os=>QR C cb f ms rs os K| .bi b e,rs,vs,os,K=>wX e rs vs os λa rs os=>b4 (view a rs) os λd os=>Ik (gY b d) os λm os=>K m rs os| .bw m o args,rs,vs,os,K=>wX o rs vs os λa rs os=>b4 (eA<|Gz m a rs) os λ_ os=>mZ args rs vs os λms rs os=>agV (iQ m a ms rs) os λp os=>K p.1 p.2 os| .comp elt ni tg k it cond,rs,vs,os,K=>
  let cW:=λx rs os K=>b4 (hO tg x<|vs++eW ni aw) os λvs os=>wX cond rs vs os λc rs os=>lT (fM c rs) os λc os=>match c with
   |true=>wX elt rs vs os λm rs os=>b4 (jr m rs) os λp os=>K (ab p.1) p.2 os|false=>K aw rs os
  wX it rs vs os λa rs os=>b4 (t8 k a rs) os λp os=>CS cW p.1 p.2 os λys rs os=>K (.own<|.ah ys) rs os
 | .tY e,rs,vs,os,K=>wX e rs vs os λa rs os=>Ik (GD a rs) os λm os=>K m rs os
noncomputable def mZ:af X->Rs->Vs->Os->(af MV->Rs->Os->Prop)->Prop
 |[],rs,_,os,K=>K [] rs os|e::es,rs,vs,os,K=>wX e rs vs os λm rs os=>mZ es rs vs os λms rs os=>K (m::ms) rs os
noncomputable def wB:az->af X->Rs->Vs->Os->(MV->Rs->Os->Prop)->Prop
 |_,[],_,_,_,_=>False|s,e::es,rs,vs,os,K=>wX e rs vs os λm rs os=>match es with
  |[]=>K m rs os|_::_=>lT (fM m rs) os λc os=>match s,c with
   |true,ae=>wB s es rs vs os K|true,ag=>K m rs os|false,ae=>K m rs os|false,ag=>wB s es rs vs os K
end
def wT(e:X)(rs:Rs)(vs:Vs)(os:Os)(K:MV->az->Rs->Os->Prop):Prop:=wX C cb e rs vs os λm rs os=>lT (fM m rs) os λc os=>K m c rs os
mutual
noncomputable def wS:ST->Rs->Vs->Os->(Fl->Rs->Vs->Os->Prop)->Prop
 | .expr e,rs,vs,os,K=>wX C cb e rs vs os λm rs os=>b4 (fz m) os λ_ os=>K .nx rs vs os| .aN i e,rs,vs,os,K=>wX C cb e rs vs os λm rs os=>K .nx (hV i m rs vs).1 (hV i m rs vs).2 os| .nG is e,rs,vs,os,K=>wX C cb e rs vs os λm rs os=>b4 (jr m rs) os λp os=>b4 (hO (.aC is) p.1 vs) os λvs os=>K .nx p.2 vs os| .lU i j a b,rs,vs,os,K=>wX C cb a rs vs os λa rs os=>wX C cb b rs vs os λb rs os=>
   K .nx (hV j b (hV i a rs vs).1 (hV i a rs vs).2).1 (hV j b (hV i a rs vs).1 (hV i a rs vs).2).2 os
 | .nH o i e,rs,vs,os,K=>wX C cb e rs vs os λm rs os=>wX C cb o rs vs os λa rs os=>wX C cb i rs vs os λb rs os=>b4 (fz m) os λd os=>b4 (fz b) os λk os=>Rk (rC a k d rs) os λrs os=>K .nx rs vs os| .xp o i e,rs,vs,os,K=>wX C cb o rs vs os λa rs os=>wX C cb i rs vs os λb rs os=>b4 (fz b) os λk os=>Rl (e9 a k rs) os λold os=>wX C cb e rs vs os λm rs os=>b4 (RJ old m) os λd os=>Rk (rC a k d rs) os λrs os=>K .nx rs vs os| .ite t a b,rs,vs,os,K=>wT C cb t rs vs os λ_ c rs os=>match c with
  |true=>dK a rs vs os K|false=>dK b rs vs os K
 | .cM t b,rs,vs,os,K=>Eu (λrs vs os K=>wT C cb t rs vs os λ_=>K) (λrs vs os K=>dK b rs vs os K) rs vs os K| .for tg k e b,rs,vs,os,K=>
  let cW:=λx rs vs os K=>b4 (hO tg x vs) os λvs os=>dK b rs vs os K
  wX C cb e rs vs os λm rs os=>b4 (t8 k m rs) os λp os=>HP cW p.1 p.2 vs os K
 | .ret e,rs,vs,os,K=>wX C cb e rs vs os λm rs os=>K (.rt m) rs vs os| .brk,rs,vs,os,K=>K .bk rs vs os| .cont,rs,vs,os,K=>K .ct rs vs os| .m8,_,_,_,_=>False
noncomputable def dK:af ST->Rs->Vs->Os->(Fl->Rs->Vs->Os->Prop)->Prop
 |[],rs,vs,os,K=>K .nx rs vs os|s::ss,rs,vs,os,K=>wS s rs vs os λfl rs vs os=>match fl with
  | .nx=>dK ss rs vs os K| .bk=>K .bk rs vs os| .ct=>K .ct rs vs os| .rt m=>K (.rt m) rs vs os
end
end
structure Fn where
 ps:af az
 nv:ai
 body:af ST
noncomputable def slots:af az->ai->af V->Vs
 |true::bs,i,ds=>ab (.ref i)::slots bs (i+1) ds|false::bs,i,d::ds=>ab (.val d)::slots bs i ds|_,_,_=>[]
def CL(k:ai)(m:MV)(rs:Rs):aD (MV×Rs):=
 match m with
 | .val d=>ab (.val d,rs.take k)| .own r=>ab (.own r,rs.take k)| .ref i=>if k<=i then(live<|fo rs i).map λr=>(.own r,rs.take k) else aw|_=>aw
noncomputable def dQ(a8:ai->aD Fn)(f:ai):aD (af az):=(a8 f).map (·.ps)
def a6(k:ai)(fl:Fl)(rs:Rs):aD (MV×Rs):=match fl with
 | .nx=>CL k (.val .none) rs| .rt m=>CL k m rs| .bk=>aw| .ct=>aw
noncomputable def b5(a8:ai->aD Fn):ai->Dd
 |0,_,_,_,_,_=>False|n+1,f,own,ds,m,cE=>match a8 f with
  |none=>False|some fn=>own.length=(fn.ps.filter (·==ae)).length/\ds.length=(fn.ps.filter (·==ag)).length/\
    ∃os,dK (b5 a8 n) (dQ a8) fn.body own (slots fn.ps 0 ds++eW (fn.nv-fn.ps.length) aw) os λfl rs _ _=>a6 own.length fl rs=ab (m,cE)
end
noncomputable def tI:aq:=⟨#[108,105,116]⟩
noncomputable def m9:aq:=⟨#[45]⟩
noncomputable def tD:aq:=⟨#[116,101,109,112,108,97,116,101]⟩
noncomputable def tG:aq:=⟨#[115]⟩
noncomputable def pT:aq:=⟨#[118,97,114]⟩
noncomputable def Fh:aq:=⟨#[118,97,114,118,97,114]⟩
noncomputable def iM:aq:=⟨#[101]⟩
noncomputable def oO:aq:=⟨#[97,114,114,97,121]⟩
noncomputable def wm:aq:=⟨#[107]⟩
noncomputable def Yq:aq:=⟨#[108,105,115,116]⟩
noncomputable def kc:aq:=⟨#[100,105,109]⟩
noncomputable def j9:aq:=⟨#[101,101]⟩
noncomputable def Fi:aq:=⟨#[115,112,114,111,112]⟩
noncomputable def Ft:aq:=⟨#[99,99,111,110,115,116]⟩
noncomputable def Mi:aq:=⟨#[101,45]⟩
noncomputable def nV:aq:=⟨#[97,115,115,105,103,110]⟩
noncomputable def Mz:aq:=⟨#[97,115,115,105,103,110,114,101,102]⟩
noncomputable def jO:aq:=⟨#[97,115,115,105,103,110,111,112]⟩
noncomputable def Fg:aq:=⟨#[45,101,101]⟩
noncomputable def pV:aq:=⟨#[105,110,99,100,101,99]⟩
noncomputable def Ff:aq:=⟨#[45,45,101]⟩
noncomputable def oM:aq:=⟨#[117,110]⟩
noncomputable def wg:aq:=⟨#[45,101]⟩
noncomputable def wz:aq:=⟨#[98,105,110]⟩
noncomputable def wA:aq:=⟨#[97,110,100]⟩
noncomputable def yM:aq:=⟨#[111,114]⟩
noncomputable def wx:aq:=⟨#[99,111,97,108,101,115,99,101]⟩
noncomputable def mu:aq:=⟨#[99,97,115,116]⟩
noncomputable def Mn:aq:=⟨#[115,105,108,101,110,99,101]⟩
noncomputable def Fj:aq:=⟨#[105,115,115,101,116]⟩
noncomputable def Fq:aq:=⟨#[101,109,112,116,121]⟩
noncomputable def Mu:aq:=⟨#[105,110,115,116,97,110,99,101,111,102]⟩
noncomputable def tH:aq:=⟨#[112,114,105,110,116]⟩
noncomputable def My:aq:=⟨#[99,108,111,110,101]⟩
noncomputable def Mm:aq:=⟨#[116,104,114,111,119]⟩
noncomputable def rI:aq:=⟨#[109,97,116,99,104]⟩
noncomputable def Mw:aq:=⟨#[101,109]⟩
noncomputable def fC:aq:=⟨#[121,105,101,108,100]⟩
noncomputable def jN:aq:=⟨#[121,105,101,108,100,102,114,111,109]⟩
noncomputable def pU:aq:=⟨#[110,97,109,101]⟩
noncomputable def pW:aq:=⟨#[99,97,108,108]⟩
noncomputable def BJ:aq:=⟨#[101,97]⟩
noncomputable def Mr:aq:=⟨#[110,101,119]⟩
noncomputable def BH:aq:=⟨#[109,99,97,108,108]⟩
noncomputable def Yg:aq:=⟨#[101,101,97,45]⟩
noncomputable def Mq:aq:=⟨#[115,99,97,108,108]⟩
noncomputable def Yu:aq:=⟨#[101,101,97]⟩
noncomputable def Yx:aq:=⟨#[99,108,111,115,117,114,101]⟩
noncomputable def Ye:aq:=⟨#[101,45,45]⟩
noncomputable def YC:aq:=⟨#[97,114,114,111,119]⟩
noncomputable def wo:aq:=⟨#[102,117,110,99]⟩
noncomputable def Yb:aq:=⟨#[45,115,45,115,45,45]⟩
noncomputable def Yo:aq:=⟨#[112,97,114,97,109]⟩
noncomputable def X9:aq:=⟨#[45,45,101,45,45,45,45]⟩
noncomputable def lH:aq:=⟨#[101,120,112,114]⟩
noncomputable def iz:aq:=⟨#[101,99,104,111]⟩
noncomputable def Yr:aq:=⟨#[104,116,109,108]⟩
noncomputable def tK:aq:=⟨#[98,108,111,99,107]⟩
noncomputable def nc:aq:=⟨#[119,104,105,108,101]⟩
noncomputable def kN:aq:=⟨#[101,115]⟩
noncomputable def wt:aq:=⟨#[100,111,119,104,105,108,101]⟩
noncomputable def rH:aq:=⟨#[115,101]⟩
noncomputable def Mv:aq:=⟨#[102,111,114]⟩
noncomputable def Ym:aq:=⟨#[115,115,115,115]⟩
noncomputable def wq:aq:=⟨#[102,111,114,101,97,99,104]⟩
noncomputable def Mj:aq:=⟨#[101,101,101,45,115]⟩
noncomputable def yL:aq:=⟨#[115,119,105,116,99,104]⟩
noncomputable def Mx:aq:=⟨#[101,98]⟩
noncomputable def wy:aq:=⟨#[98,114,101,97,107]⟩
noncomputable def wu:aq:=⟨#[99,111,110,116,105,110,117,101]⟩
noncomputable def jt:aq:=⟨#[114,101,116,117,114,110]⟩
noncomputable def Ys:aq:=⟨#[103,108,111,98,97,108]⟩
noncomputable def Yj:aq:=⟨#[117,110,115,101,116]⟩
noncomputable def yK:aq:=⟨#[116,114,121]⟩
noncomputable def Mp:aq:=⟨#[115,99,115]⟩
noncomputable def Yt:aq:=⟨#[102,117,110,99,116,105,111,110]⟩
noncomputable def Yz:aq:=⟨#[99,108,97,115,115]⟩
noncomputable def Yv:aq:=⟨#[100,101,99,108,97,114,101]⟩
noncomputable def Mh:aq:=⟨#[45,45]⟩
noncomputable def tJ:aq:=⟨#[100,101,99,108]⟩
noncomputable def X6:aq:=⟨#[45,45,45,45,45,45,115]⟩
noncomputable def Yp:aq:=⟨#[109,101,116,104,111,100]⟩
noncomputable def Yi:aq:=⟨#[117,115,101]⟩
noncomputable def YA:aq:=⟨#[99,97,115,101]⟩
noncomputable def j7:aq:=⟨#[105,102]⟩
noncomputable def pX:aq:=⟨#[98,115]⟩
noncomputable def Fs:aq:=⟨#[101,101,101]⟩
noncomputable def BG:aq:=⟨#[112,114,111,112]⟩
noncomputable def X7:aq:=⟨#[45,45,45,101]⟩
noncomputable def Yh:aq:=⟨#[101,101,45]⟩
noncomputable def Yl:aq:=⟨#[115,116,97,116,105,99]⟩
noncomputable def Yw:aq:=⟨#[99,111,110,115,116]⟩
noncomputable def Ml:aq:=⟨#[118]⟩
noncomputable def i9:aq:=⟨#[97]⟩
noncomputable def Ms:aq:=⟨#[109]⟩
noncomputable def gB:aq:=⟨#[98]⟩
noncomputable def ew:aq:=⟨#[99]⟩
noncomputable def X8:aq:=⟨#[45,45,115]⟩
noncomputable def pS:aq:=⟨#[35]⟩
noncomputable def oN:aq:=⟨#[116,104,105,115]⟩
noncomputable def Yd:aq:=⟨#[119,104,97,116,32,64,32,115,105,108,101,110,99,101,115]⟩
noncomputable def pY:aq:=⟨#[98,111,111,108]⟩
noncomputable def BE:aq:=⟨#[33]⟩
noncomputable def Fe:aq:=⟨#[61,61,61]⟩
noncomputable def qc:aq:=⟨#[]⟩
noncomputable def tF:aq:=⟨#[115,116,114,105,110,103]⟩
noncomputable def X4:aq:=⟨#[97,32,108,105,115,116,32,111,102,32,116,97,114,103,101,116,115]⟩
noncomputable def pR:aq:=⟨#[63,63]⟩
noncomputable def Fd:aq:=⟨#[97,32,115,119,105,116,99,104,39,115,32,99,97,115,101,115]⟩
noncomputable def Mg:aq:=⟨#[97,32,102,111,114,101,97,99,104,39,115,32,107,101,121]⟩
noncomputable def Mf:aq:=⟨#[97,32,102,111,114,101,97,99,104,39,115,32,116,97,114,103,101,116]⟩
noncomputable def X5:aq:=⟨#[97,32,102,111,114,101,97,99,104,32,98,121,32,114,101,102,101,114,101,110,99,101]⟩
noncomputable def Fu:aq:=⟨#[97,98,99,117]⟩
noncomputable def rG:aq:=⟨#[120]⟩
noncomputable def j8:aq:=⟨#[102]⟩
noncomputable def wh:aq:=⟨#[43,43]⟩
noncomputable def Yc:aq:=⟨#[33,45]⟩
noncomputable def bz:aq:=⟨#[100]⟩
noncomputable def wj:aq:=⟨#[117]⟩
noncomputable def rF:aq:=⟨#[43]⟩
noncomputable def BD:aq:=⟨#[60]⟩
noncomputable def tA:aq:=⟨#[46]⟩
noncomputable def et:aq:=⟨#[116]⟩
noncomputable def tL:aq:=⟨#[97,108,111,110,101]⟩
noncomputable def Fm:aq:=⟨#[105]⟩
noncomputable def yN:aq:=⟨#[65]⟩
noncomputable def MA:aq:=⟨#[49]⟩
noncomputable def Fv:aq:=⟨#[48]⟩
noncomputable def BF:aq:=⟨#[118,97,114,115]⟩
noncomputable def Mt:aq:=⟨#[108,111,103]⟩
noncomputable def tC:aq:=⟨#[117,110,100,101,102,105,110,101,100]⟩
noncomputable def Yk:aq:=⟨#[116,117,114,110]⟩
noncomputable def Mk:aq:=⟨#[122]⟩
noncomputable def Yn:aq:=⟨#[115,101,101,100]⟩
noncomputable def BI:aq:=⟨#[102,114,111,109]⟩
noncomputable def cn:X:=.lit (.int 1)
noncomputable def bV:X:=.lit (.int 0)
noncomputable def aV:X:=.var 0
noncomputable def bD:X:=.var 2
noncomputable def bB:X:=.var 1
noncomputable def bN:X:=.lit .none
noncomputable def fh:X:=.lit (.int 2)
noncomputable def ee:X:=.lit (.bool ae)
noncomputable def bL:X:=.var 3
noncomputable def eS:X:=.lit (.bool ag)
noncomputable def bZ:X:=.var 4
noncomputable def eY:X:=.lit (.int 3)
noncomputable def cf:X:=.var 5
def fs:X:=.aK bD cn
def i4:X:=.aK bB cn
def i3:X:=.lit (.str pT)
def g5:X:=.lit (.str tI)
def jG:X:=.lit (.str j7)
def g4:X:=.aK bD fh
noncomputable def dJ:X:=.var 6
def jF:X:=.aK bD bV
def mY:X:=.lit (.str kc)
def pJ:X:=.aK aV (.lit<|.str BF)
def jq:X:=.aK aV bV
def mX:X:=.lit (.str lH)
noncomputable def eF:X:=.var 7
def oF:X:=.lit (.str fC)
def oD:X:=.lit (.str nV)
def rj:X:=.lit (.str nc)
def nN:X:=.aK bB bV
def pI:X:=.call 57 [aV,i4]
def nM:X:=.aK bB fh
def sT:X:=.lit (.str wx)
def vH:X:=.au .eq (.aK i4 bV) i3
def vG:X:=.aK aV (.lit<|.str Mt)
def vF:X:=.lit (.str jN)
noncomputable def iu:X:=.var 10
noncomputable def oC:X:=.lit (.int 4)
def sS:X:=.lit (.str jO)
def pH:X:=.aK aV cn
def vD:X:=.lit (.str wt)
def rh:X:=.lit (.str BG)
def vC:X:=.lit (.str pV)
noncomputable def iZ:X:=.var 8
noncomputable def kE:X:=.var 9
def yk:X:=.lit (.str wq)
def pG:X:=.bi .len aV
def ra:X:=.neg cn
def q8:X:=.lit (.str bz)
def yj:X:=.call 15 [aV,bB,bZ]
def AZ:X:=.au .eq dJ (.lit<|.str i9)
def yi:X:=.lit (.str BH)
def yh:X:=.lit (.str Fi)
def vB:X:=.lit (.str tK)
def AY:X:=.bq .sub bB cn
def vA:X:=.au .eq jF mY
def vz:X:=.lit (.str qc)
def vy:X:=.lit (.str oO)
def vq:X:=.lit (.str wy)
def yg:X:=.lit (.str tD)
def vp:X:=.lit (.str pY)
def vn:X:=.lit (.str iz)
noncomputable def sR:X:=.lit (.int 5)
def ye:X:=.call 42 [aV,cf]
def vm:X:=.lit (.str wz)
def sQ:X:=.aK bD eY
def AX:X:=.call 40 [aV,fh]
def vk:X:=.lit (.str wA)
def yd:X:=.lit (.str pR)
def yc:X:=.lit (.str jt)
def x9:X:=.lit (.str yL)
noncomputable def xT:X:=.lit (.int 10)
def JG:X:=.call 44 [aV,AY,bD,.ite (.au .eq bZ xT) bL ee]
def AW:X:=.call 15 [aV,bB,fs]
def x8:X:=.lit (.str mu)
def xZ:X:=.lit (.str yK)
def JF:X:=.call 14 [aV,bB,bL,.bq .mul (.ah [eS])<|.bi .len bL]
def AV:X:=.lit (.str wu)
def xY:X:=.call 10 [aV]
def xX:X:=.lit (.str yM)
def xW:X:=.lit (.str oM)
def AU:X:=.lit (.str Fh)
def AS:X:=.call 33 [aV,fs]
def xV:X:=.bi .n5 aV
def AR:X:=.lit (.str pU)
def AQ:X:=.lit (.str pW)
def AP:X:=.dU bD cn bN
noncomputable def xU:X:=.lit (.int 6)
def AO:X:=.lit (.str BE)
def AN:X:=.lit (.str rF)
def AM:X:=.call 47 [bB]
def D4:X:=.lit (.str Fe)
def D3:X:=.call 57 [aV,nM]
def AL:X:=.aK kE bV
def AK:X:=.bi .len bD
def D2:X:=.lit (.str rI)
def JE:X:=.au .dt jF (.aC [oF,vF])
def AJ:X:=.aK dJ bV
def D1:X:=.aK bB ra
def D0:X:=.lit (.str pS)
def Et:X:=.lit (.str tH)
def A4:X:=.aK aV fh
noncomputable def A3:X:=.lit (.int 8)
def Es:X:=.aK i4 cn
def Kx:X:=.au .eq bB (.lit<|.str Yw)
def Er:X:=.au .gt bB bV
def Ep:X:=.au .eq jq jG
def Kw:X:=.bq .add (.call 47 [bZ]) cn
def Eo:X:=.dU bD fh bN
def Kv:X:=.call 22 [aV,cf,sQ,vz]
def Ku:X:=.cw ag [bL,.call 7 [g4]]
def En:X:=.lit (.str BD)
def Em:X:=.lit (.str tA)
def Ek:X:=.au .is aV ee
def Kt:X:=.aK bD (.lit<|.str BF)
def Ej:X:=.call 21 [fs]
def Ei:X:=.bi .tuple bZ
def Ks:X:=.call 22 [aV,cf,g4,vz]
def Eh:X:=.bi .tuple bD
def Eg:X:=.lit (.str gB)
def Kr:X:=.call 44 [aV,AY,bD,bL]
def Kq:X:=.call 44 [aV,AY,bD,ee]
def Ef:X:=.dU bB cn bN
def Kp:X:=.call 29 [aV,bB,g4,bL]
def Ee:X:=.au .eq bB bV
def Ec:X:=.au .is aV bN
def Eb:X:=.call 68 [pH]
def Ea:X:=.aK bD bZ
def D9:X:=.bi .tuple iZ
def Ko:X:=.call 15 [aV,bB,bD]
def D8:X:=.lit (.str j8)
def Kn:X:=.call 16 [aV,bB,bD]
def Km:X:=.lit (.str Mu)
def Kl:X:=.lit (.str Mz)
def Kk:X:=.call 51 [aV,Es]
def Kj:X:=.au .kh dJ bN
def Ki:X:=.au .kh cf bN
def D7:X:=.aK bD ra
noncomputable def D6:X:=.lit (.int 7)
def Kh:X:=.call 40 [aV,sR]
def Kg:X:=.call 40 [aV,oC]
def Ke:X:=.call 57 [aV,D1]
def Kb:X:=.call 60 [aV,i4]
def Ka:X:=.au .kh iZ bN
def J9:X:=.bq .mul fh kE
def J8:X:=.call 33 [aV,g4]
def J7:X:=.bq .jR bZ fh
def J6:X:=.bq .add cn AX
def J5:X:=.lit (.str Yk)
def J4:X:=.call 57 [aV,eF]
def J3:X:=.au .eq nN vC
def J2:X:=.au .eq nN yk
def J1:X:=.not (.call 66 [pH])
def J0:X:=.lit (.str m9)
def JZ:X:=.dU bD eY bN
def JY:X:=.au .eq bL yh
def JX:X:=.au .eq bL yi
noncomputable def A0:X:=.var 11
def JW:X:=.au .eq bD jG
def JV:X:=.au .is nM bN
def JU:X:=.au .kh bL bN
def JT:X:=.lit (.str Ft)
def JS:X:=.lit (.str tF)
def D5:X:=.neg fh
def JR:X:=.au .is bL bN
def JQ:X:=.lit (.str wh)
def JP:X:=.au .eq nN rj
def JO:X:=.lit (.str Ml)
def JN:X:=.lit (.str Mq)
def JM:X:=.au .eq bL sT
def JL:X:=.lit (.str Mv)
def JK:X:=.au .eq bL rj
def JJ:X:=.au .eq bL vD
def JI:X:=.lit (.str yN)
def JH:X:=.call 49 [iu]
def Q8:af ST:=[.ret<|.xj [(tI,.str m9),(tD,.str tG),(pT,.str m9),(Fh,.str iM),(oO,.str wm),(Yq,.str wm),(kc,.str j9),(Fi,.str j9),(Ft,.str Mi),(nV,.str j9),(Mz,.str j9),(jO,.str Fg),(pV,.str Ff),(oM,.str wg),(wz,.str Fg),(wA,.str j9),(yM,.str j9),(wx,.str j9),(mu,.str wg),(Mn,.str iM),(Fj,.str tG),(Fq,.str iM),(Mu,.str j9),(tH,.str iM),(My,.str iM),(Mm,.str iM),(rI,.str Mw),(fC,.str j9),(jN,.str iM),(pU,.str m9),(pW,.str BJ),(Mr,.str BJ),(BH,.str Yg),(Mq,.str Yu),(Yx,.str Ye),(YC,.str Mi),(wo,.str Yb),(Yo,.str X9),(lH,.str iM),(iz,.str tG),(Yr,.str m9),(tK,.str tG),(nc,.str kN),(wt,.str rH),(Mv,.str Ym),(wq,.str Mj),(yL,.str Mx),(wy,.str m9),(wu,.str m9),(jt,.str iM),(Ys,.str m9),(Yj,.str tG),(yK,.str Mp),(Yt,.str iM),(Yz,.str iM),(Yv,.str Mh),(tJ,.str X6),(Yp,.str wg),(Yi,.str Mh),(YA,.str wg)]]
def Ih:af ST:=[.aN 1 jq,.ite (.au .eq bB jG) [.ret<|.ite (.au .eq pG eY) (.lit<|.str pX) (.lit<|.str Fs)] [],.ite (.au .eq bB rh) [.ret<|.ite (.au .eq pG sR) (.lit<|.str X7) (.lit<|.str Yh)] [],.ite (.cw ag [.au .eq bB (.lit<|.str Yl),.cw ae [Kx,.call 2 [pH]]]) [.ret<|.bq .mul JO (.bq .sub pG cn)] [],.ite Kx [.ret<|.ite (.au .eq pG oC) (.lit<|.str Ff) J0] [],.ret<|.aK (.call 0 []) bB]
def af2:af ST:=[.ret<|.cw ae [xV,.au .eq pG fh,.bi .n5 pH]]
def age:af ST:=[.ret<|.aK (.fb [wm,i9,Ms,gB,ew,Ml] [.lit (.str j9),.lit (.str iM),.lit (.str rH),.lit (.str kN),.lit (.str X8),.lit<|.str wg]) aV]
def afS:af ST:=[.for (.name 3) .range pG [.lU 4 5 (.aK aV bL) (.aK bB bL),.ite (.cw ag [.au .is cf bN,.au .eq bZ J0]) [.cont] [],.ite (.au .eq bZ<|.lit (.str iM)) [.ite (.au .ne (.aK cf bV) AR) [.expr<|.bw .append bD [cf]] []] [.ite (.au .eq bZ<|.lit (.str tG)) [.expr<|.bw .kU bD [cf]] [.ite (.au .eq bZ JO) [.expr<|.call 4 [.call 3 [bZ],cf,bD]] [.for (.name 6) .plain cf [.ite Kj [.expr<|.call 4 [.call 3 [bZ],dJ,bD]] []]]]]]]
def agg:af ST:=[.aN 1 (.ah []),.expr (.call 4 [.call 1 [aV],.dU aV cn bN,bB]),.ret bB]
def agb:af ST:=[.aN 1 (.bi .list aV),.cM (.au .gt (.bi .len bB) bV) [.aN 2 (.bw .p9 bB []),.ite JE [.ret ee] [],.ite (.au .lJ jF<|.aC [.lit (.str wo),.lit<|.str tJ]) [.expr<|.bw .kU bB [.call 5 [bD]]] []],.ret eS]
def afM:af ST:=[.ret<|.cw ae [.au .kh aV bN,.call 6 [.aC [aV]]]]
def agm:af ST:=[.for (.name 1) .plain aV [.ite (.call 7 [bB]) [.ret ee] []],.ret eS]
def afQ:af ST:=[.ite (.call 7 [aV]) [.m8] []]
def afW:af ST:=[.xp aV bV cn,.ret<|.aC [i3,.bq .add D0<|.bi .str jq]]
def afR:af ST:=[.expr<|.bw .append aV [.aC [mX,.aC [oD,bB,bD]]]]
def af1:af ST:=[.ret<|.cw ag [.au .eq jq g5,.cw ae [.au .eq jq i3,.cw ag [.au .eq pH (.lit<|.str oN),.au .eq (.dU pH bN cn) D0]]]]
def af0:af ST:=[.ite (.cw ag [.call 12 [bD],.cw ae [bL,.au .eq jF i3]]) [.ret bD] [],.aN 4 xY,.expr (.call 11 [bB,bZ,bD]),.ret bZ]
def afO:af ST:=[.aN 5 (.comp kE 1 (.name 9) .range AK<|.call 7 [.aK bD kE]),.aN 6 (.ite (.au .ne cf<|.ah []) (.aK cf ra) ra),.aN 7 (.ah []),.for (.name 4) .range AK [.aN 8 Ea,.ite (.cw ae [Ka,.au .le bZ dJ]) [.aN 8 (.call 15 [aV,bB,iZ]),.ite (.au .lt bZ dJ) [.aN 8<|.call 13 [aV,bB,iZ,.aK bL bZ]] []] [],.expr<|.bw .append eF [iZ]],.ret eF]
def Q9:af ST:=[.ite (.not<|.call 7 [bD]) [.ret bD] [],.aN 3 jF,.ite (.au .dt bL<|.aC [oF,vF]) [.lU 4 5 xY Kn,.expr (.call 11 [bB,bZ,cf]),.ret bZ] [],.ite (.au .dt bL<|.aC [vk,xX,sT,jG]) [.ret<|.call 23 [aV,bB,bD]] [],.ite (.au .dt bL<|.aC [AQ,.lit (.str Mr),yi,JN]) [.ret<|.call 27 [aV,bB,bD]] [],.ite (.au .dt bL<|.aC [oD,sS,Kl,vC]) [.ret<|.call 30 [aV,bB,bD]] [],.ite (.au .dt bL<|.aC [yg,vy]) [.ret<|.call 25 [aV,bB,bD]] [],.ret<|.call 17 [aV,bB,bD]]
def agj:af ST:=[.ret<|.bq .add (.aC [jF]) (.bi .tuple<|.call 14 [aV,bB,.bi .list AP,.ah [eS,eS]])]
def afU:af ST:=[.aN 3 jF,.ite (.au .dt bL<|.aC [xW,x8]) [.ret<|.aC [bL,fs,.call 15 [aV,bB,g4]]] [],.ite (.au .dt bL<|.aC [Et,.lit (.str My),.lit (.str Mm),AU]) [.ret<|.aC [bL,AW]] [],.ite (.au .eq bL vm) [.ret<|.bq .add (.aC [bL,fs]) (.bi .tuple<|.call 14 [aV,bB,.bi .list Eo,.ah [ee,ee]])] [],.ite (.au .dt bL<|.aC [mY,rh,yh,JT,Km]) [.ret<|.call 20 [aV,bB,bD]] [],.ite (.au .eq bL D2) [.for (.aC [4,5]) .plain g4 [.ite (.cw ag [.call 7 [cf],.cw ae [.au .kh bZ bN,.call 8 [bZ]]]) [.m8] []],.ret<|.aC [bL,AW,g4]] [],.aN 6 (.fb [Mn,Fj,Fq] [.lit (.str Yd),.lit (.str Fj),.lit<|.str Fq]),.m8]
def agc:af ST:=[.cM (.au .dt jq<|.aC [mY,rh,yi]) [.ite (.cw ag [.cw ae [.au .eq jq rh,.aK aV eY],.cw ae [.au .eq jq yi,.aK aV oC]]) [.ret ee] [],.aN 0 pH],.ret eS]
def afP:af ST:=[.ite (.cw ae [.call 18 [aV],.call 8 [bB]]) [.m8] []]
def afV:af ST:=[.aN 3 jF,.ite (.au .dt bL<|.aC [mY,rh]) [.expr (.call 19 [bD,.dU bD fh eY]),.ret<|.bq .add (.bq .add (.aC [bL])<|.bi .tuple (.call 14 [aV,bB,.bi .list (.dU bD cn eY),.ah [ee,eS]])) JZ] [],.ite (.au .eq bL Km) [.nG [4,5] (.call 14 [aV,bB,.ah [fs,.call 21 [g4]],.ah [ee,ee]]),.ret<|.aC [bL,bZ,.ite Ki cf g4]] [],.aN 6 (.ah [Ej,.ite JY g4 bN]),.nG [5,7] (.call 14 [aV,bB,dJ,.ah [eS,eS]]),.ret<|.aC [bL,.ite Ki cf fs,.ite JY eF g4]]
def agf:af ST:=[.ret<|.ite (.au .dt jq<|.aC [AR,.lit<|.str tJ]) bN aV]
def afT:af ST:=[.aN 4 (.ah []),.aN 5 (.call 15 [aV,bZ,bD]),.expr (.call 11 [bZ,bB,.ite (.au .eq bL vp) (.aC [x8,vp,cf]) cf]),.ret Ei]
def agi:af ST:=[.lU 3 4 jF fs,.ite (.cw ae [JM,.call 7 [bZ],.au .dt (.aK bZ bV)<|.aC [i3,AU,mY,rh,yh,JT]]) [.m8] [],.ite (.not<|.call 8 [Eo]) [.ret<|.bq .add (.aC [bL,yj]) Eo] [],.aN 5 xY,.ite (.au .dt bL<|.aC [vk,xX]) [.expr (.bw .kU bB [.call 22 [aV,cf,bZ,vp]]),.aN 6 (.ite (.au .eq bL vk) cf<|.aC [xW,AO,cf]),.expr<|.bw .append bB [.aC [jG,.aC [.aC [dJ,.call 22 [aV,cf,g4,vp]]],bN]]] [.ite JM [.expr (.call 11 [bB,cf,.aC [sT,yj,.aC [g5,bN]]]),.aN 6 (.aC [vm,D4,cf,.aC [g5,bN]]),.expr<|.bw .append bB [.aC [jG,.aC [.aC [dJ,Ks]],bN]]] [.ite (.au .is g4 bN) [.expr (.bw .kU bB [.call 22 [aV,cf,bZ,vz]]),.expr<|.bw .append bB [.aC [jG,.aC [.aC [.aC [xW,AO,cf],Kv]],bN]]] [.aN 6 yj,.aN 7 Kv,.expr<|.bw .append bB [.aC [jG,.aC [.aC [dJ,Ks]],eF]]]]],.ret cf]
def afN:af ST:=[.ret<|.ite bB (.aC [vy,.aC [.aC [bN,aV,eS,ee]]]) aV]
def afX:af ST:=[.ite (.au .eq jF yg) [.aN 3 (.comp (.ite (.au .eq AL g5) kE<|.aC [x8,JS,kE]) 1 (.name 9) .plain fs ee),.aN 4 JF,.ret<|.aC [yg,Ei]] [],.aN 7 (.aK (.comp kE 2 (.aC [9,10]) .nz fs<|.call 8 [.dU iu bN fh]) ra),.aN 3 (.ah []),.for (.aC [5,6]) .nz fs [.ite (.cw ae [.aK dJ fh,.au .le cf eF]) [.m8] [],.expr<|.bw .kU bL [.ah [AJ,.call 24 [.aK dJ cn,.cw ae [.aK dJ eY,.au .lt cf eF]]]]],.aN 4 JF,.aN 8 (.comp (.aC [.aK bZ J9,.aK bZ (.bq .add J9 cn),.aK iu fh,.aK iu eY]) 2 (.aC [9,10]) .nz fs ee),.ret<|.aC [vy,D9]]
def agl:af ST:=[.aN 4 (.comp kE 2 (.aC [9,10]) .nz bL<|.call 7 [.aK iu bV]),.aN 5 (.ite (.au .ne bZ<|.ah []) (.aK bZ ra) ra),.aN 6 (.bq .add bD<|.comp (.call 24 [.aK iu bV,.cw ae [.aK iu cn,.au .lt kE cf]]) 2 (.aC [9,10]) .nz bL ee),.aN 7 (.call 14 [aV,bB,dJ,.bq .mul (.ah [eS])<|.bi .len dJ]),.aN 8 AK,.ret<|.aC [.dU eF bN iZ,.bi .tuple<|.comp (.aC [.aK eF (.bq .add iZ kE),.aK iu cn,.aK iu fh]) 2 (.aC [9,10]) .nz bL ee]]
def agh:af ST:=[.aN 3 jF,.ite JX [.expr<|.call 19 [bD,.bq .add (.ah [g4])<|.comp AL 1 (.name 9) .plain (.cw ag [sQ,.aC []]) ee]] [],.aN 4 (.ite (.au .dt bL<|.aC [yi,JN]) eY fh),.aN 5 (.bq .add (.ah [.ite JX fs Ej])<|.bi .list (.dU bD fh bZ)),.nG [6,7] (.call 26 [aV,bB,cf,.cw ag [Ea,.aC []]]),.aN 8 (.ite (.au .is AJ bN) fs AJ),.ret<|.bq .add (.bq .add (.bq .add (.aC [bL,iZ])<|.bi .tuple (.dU dJ cn bN))<|.aC [.ite (.au .is Ea bN) bN eF]) (.dU bD (.bq .add bZ cn) bN)]
def af3:af ST:=[.aN 4 jF,.ite (.au .eq bZ i3) [.ret bD] [],.ite (.au .eq bZ AU) [.ret<|.aC [bZ,.call 29 [aV,bB,fs,bL]]] [],.ite (.au .dt bZ<|.aC [mY,rh]) [.expr (.call 19 [bD,.ah [bD]]),.aN 5 Ku,.aN 6 (.au .dt (.aK fs bV)<|.aC [i3,AU,mY,rh,yh]),.aN 7 (.ite dJ (.call 28 [aV,bB,fs,cf])<|.call 29 [aV,bB,fs,cf]),.ret<|.bq .add (.aC [bZ,eF,Kp]) JZ] [],.ite (.au .eq bZ yh) [.aN 8 Ej,.aN 9 (.ite (.au .is iZ bN) bN<|.call 29 [aV,bB,iZ,Ku]),.ret<|.aC [bZ,.ite (.au .is kE bN) fs kE,Kp]] [],.expr (.call 9 [bD,.lit<|.str X4]),.ret bD]
def af4:af ST:=[.ite (.au .is bD bN) [.ret bN] [],.aN 4 Ko,.ret<|.ite bL (.call 13 [aV,bB,bZ,eS]) bZ]
def agk:af ST:=[.aN 3 jF,.ite (.au .eq bL Kl) [.m8] [],.ite (.au .eq bL vC) [.ret<|.bq .add (.dU bD bN eY) (.aC [.call 28 [aV,bB,sQ,eS]])] [],.ite (.cw ae [.au .eq bL sS,.au .eq fs yd,.call 7 [sQ]]) [.ret<|.call 31 [aV,bB,bD]] [],.aN 4 (.call 7 [D7]),.aN 5 (.call 28 [aV,bB,.aK bD D5,bZ]),.ret<|.bq .add (.dU bD bN D5) (.aC [cf,.call 15 [aV,bB,D7]])]
def agd:af ST:=[.lU 3 4 xY (.call 28 [aV,bB,g4,ee]),.expr (.call 11 [bB,bL,.aC [sT,bZ,.aC [g5,bN]]]),.aN 5 (.ah []),.aN 6 (.call 15 [aV,cf,sQ]),.expr (.call 11 [cf,bL,.aC [oD,bZ,dJ]]),.expr (.bw .append bB [.aC [jG,.aC [.aC [.aC [vm,D4,bL,.aC [g5,bN]],.bi .tuple cf]],bN]]),.ret bL]
def af5:af ST:=[.ret<|.call 33 [.ah [bV],aV]]
def af6:af ST:=[.aN 2 (.ah []),.for (.name 3) .plain bB [.ite (.call 7 [bL]) [.expr<|.call 34 [aV,bD,bL]] [.expr<|.bw .append bD [bL]]],.ret Eh]
def Ra:af ST:=[.aN 3 jF,.ite (.au .eq bL mX) [.expr<|.call 35 [aV,bB,fs]] [.ite (.au .eq bL vn) [.for (.name 4) .plain fs [.expr<|.bw .append bB [.aC [vn,.aC [yj]]]]] [.ite (.au .eq bL yc) [.expr<|.bw .append bB [.aC [yc,AW]]] [.ite (.au .eq bL vB) [.expr<|.bw .append bB [.aC [vB,AS]]] [.ite (.au .eq bL jG) [.expr<|.call 36 [aV,bB,fs,g4]] [.ite (.au .eq bL xZ) [.aN 5 (.comp (.aC [eF,iZ,.call 33 [aV,kE]]) 3 (.aC [7,8,9]) .plain g4 ee),.aN 6 (.ite (.au .is sQ bN) bN<|.call 33 [aV,sQ]),.expr<|.bw .append bB [.aC [xZ,AS,.bi .tuple cf,dJ]]] [.ite (.au .dt bL<|.aC [rj,vD,JL,yk,x9]) [.expr<|.call 38 [aV,bB,bD]] [.m8]]]]]]]]
def aga:af ST:=[.ite JE [.expr (.bw .append bB [.aC [mX,Kn]]),.ret bN] [],.aN 3 Ko,.ite (.not<|.call 12 [bL]) [.expr<|.bw .append bB [.aC [mX,bL]]] []]
def af8:af ST:=[.aN 4 (.call 15 [aV,bB,.aK jF bV]),.aN 5 (.aC [bZ,.call 33 [aV,.aK jF cn]]),.aN 6 (.ite JR bN<|.call 33 [aV,bL]),.ite (.not<|.call 8 [.comp AL 1 (.name 9) .plain AP ee]) [.aN 7 (.bi .tuple<|.comp (.aC [AL,.call 33 [aV,.aK kE cn]]) 1 (.name 9) .plain AP ee),.expr (.bw .append bB [.aC [jG,.bq .add (.aC [cf]) eF,dJ]]),.ret bN] [],.aN 8 (.ah []),.expr (.call 36 [aV,iZ,AP,bL]),.expr<|.bw .append bB [.aC [jG,.aC [cf],D9]]]
def afY:af ST:=[.aN 2 (.ah []),.aN 3 (.call 15 [aV,bD,bB]),.ret<|.bq .add Eh (.aC [.aC [jG,.aC [.aC [.aC [xW,AO,bL],.aC [.aC [vq,cn]]]],bN]])]
def af7:af ST:=[.aN 3 jF,.ite (.cw ae [JK,.call 7 [fs]]) [.expr<|.bw .append bB [.aC [rj,.aC [g5,ee],.bq .add (.call 37 [aV,fs]) J8]]] [.ite JK [.expr<|.bw .append bB [.aC [rj,fs,J8]]] [.ite (.cw ae [JJ,.call 7 [g4]]) [.aN 4 xY,.expr (.call 11 [bB,bZ,.aC [g5,eS]]),.aN 5 (.aC [jG,.aC [.aC [bZ,.call 37 [aV,g4]]],bN]),.aN 6 (.aC [mX,.aC [oD,bZ,.aC [g5,ee]]]),.expr<|.bw .append bB [.aC [rj,.aC [g5,ee],.bq .add (.aC [cf,dJ]) AS]]] [.ite JJ [.expr<|.bw .append bB [.aC [vD,AS,g4]]] [.ite (.au .eq bL JL) [.for (.name 7) .plain (.dU bD cn oC) [.ite (.call 8 [eF]) [.m8] []],.expr<|.bw .append bB [.bq .add (.dU bD bN oC)<|.aC [.call 33 [aV,.aK bD oC]]]] [.ite (.au .eq bL yk) [.expr<|.call 39 [aV,bB,bD]] [.for (.aC [8,9]) .plain g4 [.expr<|.call 9 [iZ,.lit<|.str Fd]],.aN 10 (.bi .tuple<|.comp (.aC [A0,.call 33 [aV,.var 12]]) 2 (.aC [11,12]) .plain g4 ee),.expr<|.bw .append bB [.aC [x9,AW,iu]]]]]]]]]
def af9:af ST:=[.nG [3,4,5,6,7,8] bD,.expr (.call 9 [cf,.lit<|.str Mg]),.expr (.call 9 [dJ,.lit<|.str Mf]),.ite eF [.expr<|.call 9 [bZ,.lit<|.str X5]] [],.expr<|.bw .append bB [.aC [bL,yj,cf,dJ,eF,.call 33 [aV,iZ]]]]
def agp:af ST:=[.aN 2 (.ite (.au .gt pG cn) (.bw .nW aV [cn]) bV),.aN 3 (.bq .jR (.bq .add bD jq) bB),.nH aV bV (.bq .fdiv jq bB),.ret bL]
def agK:af ST:=[.ret<|.ah [.ah [bV,D6,bV,bV,cn,bV,bV,A3,bV,bV,eY,bV,bV],.ah [xU,xU,bV,cn,cn,bV,bV,fh,bV,bV,cn,cn,.lit (.int 15),bV,bV,cn,bV,eY,eY,bV,bV,.lit (.int 13),bV,bV,cn,bV,eY,eY,bV,bV,eY,cn],.ah [sR,cn,.lit (.int 9),bV,bV,cn,bV,bV,fh,bV,bV,bV,bV,.lit (.int 17),bV,bV,eY,bV,bV,eY,bV,bV,.lit (.int 18),bV,fh,fh,bV,bV,bV,bV,bV,bV,fh,.lit (.int 23),cn,bV,eY,bV,bV,bV,bV,cn,xT,bV,bV,cn,bV,bV,eY,bV,bV,sR,bV,bV,cn,bV,cn,eY,bV,bV]]]
def agF:af ST:=[.aN 2 (.ite Er (.call 40 [aV,.lit<|.int 26]) Kh),.lU 3 4 Kh Kg,.lU 5 6 (.aC [i3,.aK (.lit<|.str Fu) bZ]) (.aC [g5,.aK (.ah [bV,cn,fh,.lit (.str rG),bN]) bL]),.ite (.au .eq bD bV) [.ret dJ] [],.ite (.cw ag [.au .eq bD cn,.cw ae [.au .eq bD fh,Ee]]) [.ret cf] [],.ite (.cw ag [.au .eq bD fh,.cw ae [.au .eq bD eY,Ee]]) [.ret<|.aC [oF,bN,bN]] [],.ite (.cw ag [.au .eq bD eY,Ee]) [.ret<|.aC [AQ,.aC [AR,D8],.aC [.aC [cf,eS,bN]]]] [],.ite (.au .eq bD<|.lit (.int 14)) [.ret<|.aC [vC,JQ,.au .lt bL eY,cf]] [],.aN 7 (.call 42 [aV,AY]),.ite (.au .dt bD<|.ah [oC,A3,.lit (.int 19),.lit (.int 20),.lit (.int 21),.lit<|.int 22]) [.ret<|.aK (.jg [4,8,19,20,21,22] [.aC [oF,bN,eF],.aC [oD,cf,eF],.aC [xW,.aK (.lit<|.str Yc) J7,eF],.aC [vF,eF],.aC [Et,eF],.aC [x8,.aK (.ah [vp,JS]) J7,eF]]) bD] [],.ite (.au .eq bD<|.lit (.int 23)) [.ret<|.aC [D2,eF,.aC [.aC [.aC [.aC [g5,bL],dJ],.aC [g5,D6]],.aC [bN,.aC [g5,A3]]]]] [],.ret<|.call 43 [aV,bD,bB,cf,eF]]
def agw:af ST:=[.aN 5 (.call 42 [aV,.bq .sub bD cn]),.ite (.cw ae [.au .dt bB (.ah [.lit (.int 12),.lit<|.int 24]),.au .eq (.aK bZ bV) mY]) [.aN 4<|.aC [i3,q8]] [],.aN 6 (.aK bL cn),.aN 7 (.jg [5,6,7,9,10,12,13,15,16,17,24,18,25] [.aC [oF,bZ,cf],.aC [vm,.aK (.fb [i9,gB,ew,wj] [AN,En,Em,D4]) dJ,bZ,cf],.aC [AQ,.aC [AR,D8],.aC [.aC [bZ,eS,bN],.aC [cf,eS,bN]]],.aC [vk,bZ,cf],.aC [xX,bZ,cf],.aC [sT,bZ,cf],.aC [vy,.aC [.aC [bN,bZ,eS,AZ],.aC [bN,cf,eS,.au .eq dJ Eg]]],.aC [yg,.aC [.aC [g5,.lit<|.str et],bZ,cf]],.aC [mY,.ite AZ bZ (.aC [i3,q8]),cf],.aC [oD,.aC [mY,.aC [i3,q8],bZ],cf],.aC [sT,bL,bZ],.aC [sS,.aK (.fb [i9,gB,ew,wj] [AN,Em,yd,yd]) dJ,.aC [i3,dJ],bZ],.aC [sS,.aK (.ah [yd,AN]) AZ,.aC [mY,.aC [i3,q8],bZ],cf]]),.ite (.au .eq bB<|.lit (.int 11)) [.ret<|.aC [jG,bZ,.ite AZ bN cf,.ite (.au .ne dJ Eg) cf<|.aC [g5,bV]]] [],.ret<|.aK eF bB]
def agJ:af ST:=[.aN 4 (.ite Er J6 cn),.ret<|.bi .tuple (.comp (.call 45 [aV,bB,bD,bL]) 1 (.name 5) .range bZ ee)]
def nD:af ST:=[.aN 4 (.ite Er (.call 40 [aV,.lit<|.int 12]) Kg),.aN 5 (.ite (.au .gt bB cn) fh cn),.ite (.au .dt bZ<|.ah [bV,cn,fh]) [.aN 6 ye,.ite (.au .eq bZ bV) [.ret<|.aC [mX,dJ]] [],.ret<|.ite (.au .eq bZ cn) (.aC [vn,.aC [dJ,ye]]) (.aC [mX,.aC [oD,.aC [i3,Eg],dJ]])] [],.ite (.au .eq bZ eY) [.aN 7 (.aK (.ah [.aC [vq,cn],.aC [AV,cn]]) AX),.ret<|.ite bL eF (.aC [vB,.aC [.aC [mX,.aC [oF,bN,.aC [g5,.lit<|.str tL]]]]])] [],.ite (.cw ag [.au .eq bZ oC,.au .eq bZ<|.lit (.int 11)]) [.ret<|.aC [yc,.ite (.au .eq AX cn) ye bN]] [],.ite (.au .eq bZ sR) [.aN 8 (.ah []),.for (.name 9) .range J6 [.aN 10 ye,.expr<|.bw .append iZ [.aC [iu,Kr]]],.ret<|.aC [jG,D9,.ite (.au .eq AX bV) Kr bN]] [],.ite (.au .dt bZ<|.ah [xU,D6]) [.ret<|.call 46 [aV,bB,bD,bZ,cf]] [],.aN 10 ye,.ite (.au .eq bZ A3) [.aN 11 (.aC [vy,.aC [.aC [bN,iu,eS,eS],.aC [bN,.aC [g5,sR],eS,eS]]]),.ret<|.aC [yk,A0,bN,.aC [i3,.lit<|.str ew],eS,Kq]] [],.aN 12 JG,.aN 13 JG,.ite (.au .eq bZ<|.lit (.int 9)) [.aN 14 (.aC [.aC [.aC [g5,cn],.var 12],.aC [bN,.var 13],.aC [.aC [g5,fh],.aC [.aC [vq,cn]]]]),.ret<|.aC [x9,iu,.var 14]] [],.ret<|.aC [xZ,.bq .add (.aC [.aC [mX,iu]]) (.var 12),.aC [],.var 13]]
def agB:af ST:=[.expr (.bw .append bD [.bq .add (.lit<|.str Fm)<|.bi .str AK]),.aN 5 (.aC [i3,D7]),.aN 6 (.aC [vk,.aC [vm,En,.aC [vC,JQ,ee,cf],.aC [g5,eY]],.call 42 [aV,bZ]]),.aN 7 Kq,.aN 8 (.ite (.au .eq bL xU) (.aC [rj,dJ,eF])<|.aC [vD,eF,dJ]),.ret<|.aC [vB,.aC [.aC [mX,.aC [oD,cf,.aC [g5,bV]]],iZ]]]
def agz:af ST:=[.ite (.cw ag [Ec,Ek,.au .is aV eS]) [.ret<|.ite Ek cn bV] [],.ret<|.ite (.bi .uh aV) aV pG]
def ago:af ST:=[.ite (.bi .qq aV) [.ret<|.dU aV (.neg xU) bN] [],.ite xV [.ret JI] [],.ret<|.ite (.cw ag [Ec,.au .is aV eS]) vz (.ite Ek (.lit<|.str MA)<|.bi .str (.bq .jR aV xT))]
def agn:af ST:=[.ret<|.ite (.bi .qq aV) (.au .lJ aV<|.ah [vz,.lit<|.str Fv]) (.au .ne (.call 47 [aV]) bV)]
def agy:af ST:=[.ite (.au .eq aV AN) [.ret<|.bq .jR (.bq .add AM<|.call 47 [bD]) xT] [],.ite (.au .eq aV En) [.ret<|.au .lt AM (.call 47 [bD])] [],.ret<|.ite (.au .eq aV Em) (.call 48 [.bq .add (.call 48 [bB])<|.call 48 [bD]]) (.au .eq (.bi .repr bB)<|.bi .repr bD)]
def agt:af ST:=[.ite (.au .lJ bB pJ) [.expr<|.bw .append vG [.aC [.lit (.str tC),bB]]] [],.ret<|.bw .nr pJ [bB,bN]]
def agD:af ST:=[.aN 3 (.ah [bN,bN]),.for (.name 4) .plain (.ah [eS,ee]) [.for (.name 5) .range fh [.ite (.au .eq (.cw ae [.aK bD cf,.au .eq (.aK (.aK bB cf) bV) i3]) bZ) [.nH bL cf<|.call 57 [aV,.aK bB cf]] []]],.ret bL]
def agM:af ST:=[.expr (.bw .append vG [bB]),.xp aV J5 cn,.ret<|.aK (.ah [eY,bN,.lit (.str Mk),bV,cn]) (.bq .jR (.bq .add (.aK aV<|.lit (.str Yn))<|.aK aV J5) sR)]
def agE:af ST:=[.ret<|.ite xV JI aV]
def agI:af ST:=[.ret<|.ite (.cw ae [xV,.au .ne aV<|.aC []]) (.aK aV<|.bq .jR AM pG) bN]
def agv:af ST:=[.aN 3 (.bw .nr pJ [q8,bN]),.aN 4 (.ite (.cw ae [.bi .n5 bL,.au .eq (.bi .len bL) eY]) (.bi .list bL)<|.ah [bN,bN,bN]),.nH bZ (.bq .jR AM eY) (.call 54 [bD]),.nH pJ q8 Ei,.ret bD]
def agH:af ST:=[.aN 2 nN,.ite (.au .eq bD g5) [.ret i4] [],.ite (.au .eq bD i3) [.ret<|.call 51 [aV,i4]] [],.ite (.au .eq bD vm) [.nG [3,4] (.call 52 [aV,.dU bB fh bN,.ah [ee,ee]]),.ret<|.call 50 [i4,bL,bZ]] [],.ite (.au .dt bD<|.ah [vk,xX]) [.aN 3 (.call 49 [pI]),.ret<|.ite (.au .eq bL<|.au .eq bD xX) bL (.call 49 [D3])] [],.ite (.au .eq bD sT) [.aN 3 (.ite vH (.bw .nr pJ [Es,bN]) pI),.ret<|.ite JR D3 bL] [],.ite JW [.aN 3 pI,.ite (.not<|.call 49 [bL]) [.ret<|.call 57 [aV,.aK bB eY]] [],.ret<|.ite JV bL D3] [],.ite (.au .eq bD oF) [.aN 5 (.comp (.ite (.au .is dJ bN) bN<|.call 57 [aV,dJ]) 1 (.name 6) .plain Ef ee),.ret<|.call 53 [aV,.aC [oF,.aK cf bV,.aK cf cn]]] [],.ite (.au .eq bD vF) [.ret<|.call 53 [aV,.aC [.lit (.str BI),pI]]] [],.ite (.au .dt bD<|.ah [oD,sS,vC]) [.ret<|.call 59 [aV,bB]] [],.ret<|.call 58 [aV,bB]]
def agx:af ST:=[.aN 2 nN,.ite (.au .eq bD mY) [.nG [3,4] (.call 52 [aV,Ef,.ah [ee,eS]]),.ret<|.call 55 [bL,bZ]] [],.ite (.au .eq bD vy) [.aN 5 (.aC []),.for (.aC [6,7,8,9]) .plain i4 [.aN 10 J4,.aN 5<|.bq .add cf (.ite (.cw ae [kE,.bi .n5 iu]) iu<|.aC [.call 54 [iu]])],.ret<|.dU cf (.neg oC) bN] [],.ite (.au .eq bD AQ) [.aN 11 (.ah [D8]),.for (.aC [7,9,12]) .plain nM [.expr<|.bw .append A0 [J4]],.expr (.bw .append vG [.bi .tuple A0]),.ret<|.bq .jR (.bi .len vG) oC] [],.ite (.au .eq bD D2) [.aN 13 (.ite vH bN pI),.for (.aC [14,15]) .plain (.dU nM bN cn) [.for (.name 16) .plain (.var 14) [.aN 10 (.ite vH Kk<|.var 13),.ite (.au .eq (.bi .repr iu)<|.bi .repr (.aK (.var 16) cn)) [.ret<|.aK (.var 15) cn] []]],.ret<|.aK (.aK (.aK nM cn) cn) cn] [],.ite (.au .eq bD yg) [.ret<|.call 48 [.bw .join vz [.comp (.call 48 [.call 57 [aV,.var 17]]) 1 (.name 17) .plain i4 ee]]] [],.aN 10 Ke,.ite (.au .eq bD Et) [.expr (.bw .append vG [.aC [vn,.call 48 [iu]]]),.ret cn] [],.ite (.au .eq bD x8) [.ret<|.ite (.au .eq i4 vp) JH (.call 48 [iu])] [],.ret<|.ite (.au .eq i4 AO) (.not JH) (.bq .jR (.neg<|.call 47 [iu]) xT)]
def agL:af ST:=[.aN 2 (.ite J3 D1<|.aK bB D5),.aN 3 (.ite vA (.call 57 [aV,g4]) bN),.ite J3 [.aN 4 (.call 51 [aV,fs]),.nH pJ fs Kw,.ret<|.ite nM Kw bZ] [],.aN 5 (.cw ae [.au .eq nN sS,.au .eq i4 yd]),.ite cf [.aN 6 (.bw .nr pJ [.ite (.cw ag [JU,vA]) q8 fs,bN]),.aN 6 (.ite vA (.call 55 [dJ,bL]) dJ),.ite Kj [.ret dJ] []] [],.aN 7 Ke,.ite (.cw ae [.au .eq nN sS,.not cf]) [.aN 4 (.call 51 [aV,.ite vA q8 fs]),.aN 7<|.call 50 [i4,.ite vA (.call 55 [bZ,bL]) bZ,eF]] [],.ite vA [.ret<|.call 56 [aV,bL,eF]] [],.nH pJ fs eF,.ret eF]
def ags:af ST:=[.for (.name 2) .plain bB [.aN 3 (.call 62 [aV,bD]),.ite JU [.ret bL] []],.ret bN]
def agC:af ST:=[.ite (.cw ag [Ec,.au .eq aV<|.aC [AV,cn]]) [.ret<|.aC [eS,bN]] [],.ret<|.aC [ee,.ite (.au .eq aV<|.aC [vq,cn]) bN aV]]
def agG:af ST:=[.aN 2 nN,.ite (.au .eq bD mX) [.ite (.au .ne (.aK i4 bV) i3) [.expr pI] [],.ret bN] [],.ite (.au .eq bD vn) [.for (.name 3) .plain i4 [.expr<|.bw .append vG [.aC [vn,.call 48 [.call 57 [aV,bL]]]]],.ret bN] [],.ite (.au .dt bD<|.ah [vq,AV]) [.ret bB] [],.ite (.au .eq bD yc) [.ret<|.aC [yc,.ite (.au .is i4 bN) bN pI]] [],.ite (.au .eq bD vB) [.ret Kb] [],.ite JW [.for (.aC [4,5]) .plain i4 [.ite (.call 49 [.call 57 [aV,bZ]]) [.ret<|.call 60 [aV,cf]] []],.ret<|.ite JV bN (.call 60 [aV,nM])] [],.ite (.au .eq bD xZ) [.aN 6 Kb,.aN 7 (.call 60 [aV,.aK bB eY]),.ret<|.ite (.au .is eF bN) dJ eF] [],.ite (.au .eq bD x9) [.ret<|.call 63 [aV,bB]] [],.ret<|.call 64 [aV,bB]]
def agq:af ST:=[.lU 2 3 (.ite vH bN pI) cn,.for (.name 4) .plain (.ah [bV,fh]) [.aN 5 (.ite vH Kk bD),.ite (.cw ae [.au .eq bL cn,.au .eq (.bi .repr cf)<|.bi .repr (.aK (.aK (.aK nM bZ) bV) cn)]) [.aN 3 bZ,.brk] []],.for (.aC [6,7]) .plain (.dU nM bL bN) [.aN 8 (.call 60 [aV,eF]),.ite Ka [.ret<|.ite (.au .dt iZ<|.ah [.aC [vq,cn],.aC [AV,cn]]) bN iZ] []],.ret bN]
def agA:af ST:=[.lU 2 3 (.ah []) eS,.ite J2 [.aN 2<|.bi .list pI] [],.cM ee [.ite J2 [.ite (.au .eq bD<|.ah []) [.ret bN] [],.nH pJ (.lit<|.str ew)<|.bw .nW bD [bV]] [.ite (.cw ag [JP,bL]) [.ite (.not<|.call 49 [.call 57 [aV,.ite JP i4 nM]]) [.ret bN] []] []],.aN 3 ee,.nG [4,5] (.call 61 [.call 60 [aV,.ite (.au .eq nN vD) i4 D1]]),.ite bZ [.ret cf] []]]
def agu:af ST:=[.aN 2 (.yq [.fb [i9,gB,bz] [cn,.lit (.str rG),.aC [bV,cn,fh]],.ah [],bV,bB]),.aN 3 (.call 60 [bD,aV]),.aN 4 (.bi .rA<|.tY Kt),.ret<|.aC [bL,.aK bD (.lit<|.str Mt),.comp (.aC [cf,.aK Kt cf]) 1 (.name 5) .plain bZ ee]]
def Rb:af ST:=[.ite (.cw ag [.not xV,.au .eq aV<|.aC []]) [.ret eS] [],.ret<|.cw ag [.au .dt jq (.aC [oF,vF]),.au .ne (.comp bB 1 (.name 1) .plain aV<|.call 66 [bB])<|.ah []]]
def agr:af ST:=[.ite (.not<|.call 66 [aV]) [.ret ee] [],.ite (.au .eq jq mX) [.aN 1 pH,.ite (.cw ae [.au .eq nN oD,vH,.au .eq (.dU Es bN cn) D0]) [.aN 1 nM] [],.ret<|.cw ae [.au .dt nN (.aC [oF,vF]),.not<|.call 66 [Ef]]] [],.ite (.au .eq jq vB) [.ret Eb] [],.ite (.au .dt jq<|.ah [jG,x9]) [.aN 2 (.ite Ep pH A4),.aN 3 (.cw ag [Ep,J1]),.aN 4 (.ite (.cw ae [Ep,.au .kh A4 bN]) A4<|.aC []),.aN 5 (.au .eq (.comp dJ 1 (.name 6) .plain bD<|.cw ag [.call 66 [AJ],.not<|.call 68 [.aK dJ cn]])<|.ah []),.ret<|.cw ae [bL,cf,.call 68 [bZ]]] [],.ite (.au .eq jq xZ) [.ret<|.cw ae [Eb,.call 68 [.aK aV eY]]] [],.ite (.au .eq jq vD) [.ret<|.cw ae [Eb,.not<|.call 66 [A4]]] [],.ret<|.cw ae [.au .dt jq (.ah [rj,yk]),J1,.call 68 [.aK aV ra]]]
def agN:af ST:=[.ret<|.au .eq (.comp bB 1 (.name 1) .plain aV<|.not (.call 67 [bB])) (.ah [])]
def afZ:af ST:=[.lU 1 2 (.ah []) (.ah []),.for (.aC [3,4]) .nz (.call 41 []) [.expr<|.bw .append bD [.call 45 [.bq .add (.ah [.bq .jR (.bi .sum<|.vV aV bL)<|.lit (.int 1000000000000000000000000000000000000000000000000000000000000000000000000000000000000000000000000000000000000000000000000)]) bZ,fh,bB,eS]]],.lU 2 5 Eh (.bi .sum<|.vV aV eY),.aN 6 (.call 32 [bD]),.ite (.cw ag [.au .ne (.bi .repr<|.call 65 [dJ,cf]) (.bi .repr<|.call 65 [bD,cf]),.not<|.call 68 [dJ]]) [.ret eS] [],.for (.name 7) .plain bD [.ite (.cw ae [.not (.call 66 [eF]),.au .lJ (.bi .repr eF)<|.comp (.bi .repr iZ) 1 (.name 8) .plain dJ ee]) [.ret eS] []],.ret ee]
def Vc:af Fn:=[
 ⟨[],0,Q8⟩,
 ⟨[ag],2,Ih⟩,
 ⟨[ag],1,af2⟩,
 ⟨[ag],1,age⟩,
 ⟨[ag,ag,ae],7,afS⟩,
 ⟨[ag],2,agg⟩,
 ⟨[ag],3,agb⟩,
 ⟨[ag],1,afM⟩,
 ⟨[ag],2,agm⟩,
 ⟨[ag,ag],2,afQ⟩,
 ⟨[ae],1,afW⟩,
 ⟨[ae,ag,ag],3,afR⟩,
 ⟨[ag],1,af1⟩,
 ⟨[ae,ae,ag,ag],5,af0⟩,
 ⟨[ae,ae,ag,ag],9,afO⟩,
 ⟨[ae,ae,ag],6,Q9⟩,
 ⟨[ae,ae,ag],3,agj⟩,
 ⟨[ae,ae,ag],7,afU⟩,
 ⟨[ag],1,agc⟩,
 ⟨[ag,ag],2,afP⟩,
 ⟨[ae,ae,ag],8,afV⟩,
 ⟨[ag],1,agf⟩,
 ⟨[ae,ag,ag,ag],6,afT⟩,
 ⟨[ae,ae,ag],8,agi⟩,
 ⟨[ag,ag],2,afN⟩,
 ⟨[ae,ae,ag],9,afX⟩,
 ⟨[ae,ae,ag,ag],9,agl⟩,
 ⟨[ae,ae,ag],9,agh⟩,
 ⟨[ae,ae,ag,ag],10,af3⟩,
 ⟨[ae,ae,ag,ag],5,af4⟩,
 ⟨[ae,ae,ag],6,agk⟩,
 ⟨[ae,ae,ag],7,agd⟩,
 ⟨[ag],1,af5⟩,
 ⟨[ae,ag],4,af6⟩,
 ⟨[ae,ae,ag],7,Ra⟩,
 ⟨[ae,ae,ag],4,aga⟩,
 ⟨[ae,ae,ag,ag],9,af8⟩,
 ⟨[ae,ag],4,afY⟩,
 ⟨[ae,ae,ag],11,af7⟩,
 ⟨[ae,ae,ag],9,af9⟩,
 ⟨[ae,ag],4,agp⟩,
 ⟨[],0,agK⟩,
 ⟨[ae,ag],8,agF⟩,
 ⟨[ae,ag,ag,ag,ag],8,agw⟩,
 ⟨[ae,ag,ae,ag],5,agJ⟩,
 ⟨[ae,ag,ae,ag],15,nD⟩,
 ⟨[ae,ag,ae,ag,ag],9,agB⟩,
 ⟨[ag],1,agz⟩,
 ⟨[ag],1,ago⟩,
 ⟨[ag],1,agn⟩,
 ⟨[ag,ag,ag],3,agy⟩,
 ⟨[ae,ag],2,agt⟩,
 ⟨[ae,ag,ag],6,agD⟩,
 ⟨[ae,ag],2,agM⟩,
 ⟨[ag],1,agE⟩,
 ⟨[ag,ag],2,agI⟩,
 ⟨[ae,ag,ag],5,agv⟩,
 ⟨[ae,ag],6,agH⟩,
 ⟨[ae,ag],17,agx⟩,
 ⟨[ae,ag],8,agL⟩,
 ⟨[ae,ag],4,ags⟩,
 ⟨[ag],1,agC⟩,
 ⟨[ae,ag],8,agG⟩,
 ⟨[ae,ag],9,agq⟩,
 ⟨[ae,ag],6,agA⟩,
 ⟨[ag,ag],5,agu⟩,
 ⟨[ag],1,Rb⟩,
 ⟨[ag],6,agr⟩,
 ⟨[ag],1,agN⟩,
 ⟨[ag],8,afZ⟩]
def a8(f:ai):aD Fn:=Vc[f]?
namespace L
theorem an{a b:Prop}(x:a)(y:b):a/\b:=⟨x,y⟩
def ao(n f:ai)(own:Rs)(ds:af V)(m:MV)(cE:Rs):Prop:=∀k,n<=k->b5 a8 k f own ds m cE
theorem ao.aU{n n' f:ai}{own cE:Rs}{ds:af V}{m:MV}(h:ao n f own ds m cE)(hn:n<=n'):ao n' f own ds m cE:=λk hk=>h k (aj hn hk)
theorem ao.go{n f nv:ai}{ps:af az}{body:af ST}{own cE:Rs}{ds:af V}{m:MV}{P:ai->Prop}(os:Os)(H:∀k,n<=k->ab (m,cE)=ab (m,cE)->P k)(h:a8 f=ab ⟨ps,nv,body⟩:=by exact rfl)
  (h1:own.length=(ps.filter (·==ae)).length:=by exact rfl)(h2:ds.length=(ps.filter (·==ag)).length:=by exact rfl)
  (e:∀k,dK (b5 a8 k) (dQ a8) body own (slots ps 0 ds++eW (nv-ps.length) aw) os (λfl rs _ _=>a6 own.length fl rs=ab (m,cE))=P k:=by intro k;kernel_rfl):ao (n+1) f own ds m cE:=by
 intro k hk
 cases k with
 |zero=>exact dk hk (uZ n)|succ k=>
  show(match a8 f with
   |none=>False|some fn=>own.length=(fn.ps.filter (·==ae)).length/\ds.length=(fn.ps.filter (·==ag)).length/\
     ∃os,dK (b5 a8 k) (dQ a8) fn.body own (slots fn.ps 0 ds++eW (fn.nv-fn.ps.length) aw) os λfl rs _ _=>a6 own.length fl rs=ab (m,cE))
  rw[h]
  exact⟨h1,h2,os,(e k).mpr<|H k (sO hk) rfl⟩
section
noncomputable def dM(a b:aq):az:=a.cps.toList==b.cps.toList
noncomputable def dg:V->aH
 | .int i=>i| .bool b=>if b then 1 else 0| .str s=>s.length| .tuple xs=>xs.length|_=>0
def kO(s:aq):aq:=⟨(fj s.cps.toList (ab<|-6) aw).toArray⟩
def cY:V->aq
 | .str s=>kO s| .tuple _=>yN| .bool b=>if b then MA else qc| .int i=>fU (toString<|i%10)|_=>qc
def bF:V->az
 | .str s=>!(dM qc s||dM Fv s)| .tuple xs=>decide ((xs.length:aH)≠0)| .int i=>decide (i≠0)| .bool b=>b|_=>ag
noncomputable def oj:V->Prop
 | .none=>True| .bool _=>True| .int _=>True| .str s=>s.length<=100000| .tuple xs=>xs.length<=100000|_=>False
end
theorem Vy{a b:aq}:dM a b=ae↔a=b:=by
 unfold dM
 rw[beq_iff_eq]
 constructor
 ·intro h
  cases a with|mk a=>cases b with|mk b=>simp only [Str.mk.injEq];exact DX.mp h
 ·rintro rfl;rfl
theorem Vz(a b:aq):dM a b=decide (a=b):=ajG.mpr (Vy.trans (decide_eq_true_iff (p:=a=b)).symm)
theorem len_str{s:aq}(h:s.length<=100000):gY .len (.str s)=ab (.val<|.int s.length):=a9 h
theorem B8{xs:af V}(h:xs.length<=100000):gY .len (.tuple xs)=ab (.val<|.int xs.length):=a9 h
theorem y7{xs:af V}(h:xs.length<=100000):gY .len (.list xs)=ab (.val<|.int xs.length):=a9 h
theorem Lu{s:aq}{l r:aD aH}(h:s.length<=100000):tj (.str s) l r=ab (.val<|.str ⟨(fj s.cps.toList l r).toArray⟩):=a9 h
theorem Ls{xs:af V}{l r:aD aH}(h:xs.length<=100000):tj (.tuple xs) l r=ab (.val<|.tuple (fj xs l r)):=a9 h
theorem U8{i:aH}:(i%10).natAbs.log2<1920:=by
 have h1:(i%10).natAbs<10:=by omega
 exact lB (Nat.log2_le_self _) (j1 h1 aa)
theorem Vp{i:aH}:gY .str (.int<|i%10)=ab (.val<|.str (fU<|toString (i%10))):=a9 U8
theorem qH(d:V)(s:aq):jZ d (.str s)=match d with| .str a=>dM a s|_=>ag:=by
 cases d with
 |str a=>exact(show jZ (.str a) (.str s)=decide (a=s) by rfl).trans (Vz a s).symm
 |_=>rfl
theorem aeg(i j:aH):jZ (.int i) (.int j)=decide (i=j):=rfl
theorem xg{d e:V}(h:min d.depth e.depth<=100):ny d e=ab (jZ d e):=a9 h
theorem iC(a b:aq)(rs:Rs):cv .eq (.val<|.str a) (.val<|.str b) rs=ab (dM a b):=by
 show ny (.str a) (.str b)=_
 rw[xg (by simp[jC]),qH]
theorem B1(a b:aq)(rs:Rs):cv .ne (.val<|.str a) (.val<|.str b) rs=ab (!dM a b):=by
 show(ny (.str a)<|.str b).map _=_
 rw[xg (by simp[jC]),qH];rfl
theorem Z1(s a b:aq)(rs:Rs):cv .lJ (.val<|.str s) (.own<|.ah [.str a,.str b]) rs=ab (!(dM a s||dM b s)):=by
 show gv (!·) (if min (mT [.str a,.str b]) (jC<|.str s)<=100 then ab ([jn a,jn b].any λy=>jZ y<|.str s) else aw)=_
 rw[a9<|by simp[jC,mT]]
 simp only [To,List.any_nil,qH,cJ,aiV]
theorem aag(i j:aH)(rs:Rs):cv .ne (.val<|.int i) (.val<|.int j) rs=ab (decide (i≠j)):=by
 show(ny (.int i)<|.int j).map _=_
 rw[xg<|by simp[jC]]
 rw[aeg];by_cases h:i=j<;>simp[h]
theorem we{v:V}(h:oj v):ao 1 47 [] [v] (.val<|.int (dg v)) []:=by
 cases v with
 |bool b=>cases b<;>exact ao.go [] λk _ z=>z|none=>exact ao.go [] λk _ z=>z|int i=>exact ao.go [] λk _ z=>z|str s=>exact ao.go [.bi 1<|.val (.int s.length)] λk _ z=>an (len_str h) z|tuple s=>exact ao.go [.bi 1<|.val (.int s.length)] λk _ z=>an (B8 h) z|list s=>exact h.elim|dict s=>exact h.elim
theorem wd{v:V}(h:oj v):ao 1 48 [] [v] (.val<|.str (cY v)) []:=by
 cases v with
 |bool b=>cases b<;>exact ao.go [] λk _ z=>z|none=>exact ao.go [] λk _ z=>z|int i=>exact ao.go [.bi 2<|.val (.str<|fU (toString<|i%10))] λk _ z=>an (Vp (i:=i)) z|str s=>exact ao.go [.dU 0<|.val (.str<|kO s)] λk _ z=>an (Lu (l:=ab<|-6) (r:=aw) h) z|tuple s=>exact ao.go [] λk _ z=>z|list s=>exact h.elim|dict s=>exact h.elim
theorem Xv{v:V}(h:oj v):ao 2 49 [] [v] (.val<|.bool (bF v)) []:=by
 have hn:=we h
 have num:∀t,GR v=ag->bF v=t->(decide (dg v≠0)=t)->ao 2 49 [] [v] (.val<|.bool (bF v)) []:=λt h1 h2 h3=>
  h2▸ao.go [.bi 0 (.val<|.bool ag),.call (.val<|.int (dg v)) [],.au 0 t] λk hk z=>an (show gY .qq v=ab (.val<|.bool ag) from h1▸rfl) (an (hn k hk)<|an ((aag (dg v) 0 []).trans (ay ab h3)) z)
 cases v with
 |str s=>exact ao.go [.au 0<|bF (.str s)] λk _ z=>an (Z1 s qc Fv []) z|bool b=>cases b<;>exact num _ rfl rfl rfl|none=>exact num _ rfl rfl rfl|int i=>exact num _ rfl rfl rfl|tuple s=>exact num _ rfl rfl rfl|list s=>exact h.elim|dict s=>exact h.elim
section
open PySem
inductive O|add|lt|lq|xf
inductive U|y1|yf|call|nt|neg|jP|fF|iS|aN (x:aq)|op (plus:az) (x:aq)|bS (sp:az)
inductive W|y2|call|bS (sa sb:az)|dY|d8|fW (plus:az)
inductive L|bq (o:O)|cS
inductive E
 |lit (d:V)|var (x:aq)|y0|dW (pre:az) (x:aq)
 |un (u:U) (e:E)|bi (w:W) (a b:E)|la (l:L) (a b:E)
 |cN (ajP:az) (a b:E)|bW (a b:E)|c7 (a c:E)|c6 (a b c:E)
 |dz (x:aq) (e:E)|c8 (i e:E)|cZ (e:E) (w h:V)
inductive S
 |ex (e:E)|dT (a:E)|ig (a b:E)|fk (k:az)|jK|ret (e:E)|gO (b:af S)
 |b9 (c:E) (b o:af S) (k:az)|dH (c:E) (b:af S) (c':E) (b' o:af S) (k:az)
 |cM (c:E) (b:af S)|c9 (b:af S) (c:E)|fe (w:E) (b:af S)|sw (c:E) (x y:af S)|tr (b f:af S)
def cy(x:aq):V:=.tuple [.str pT,.str x]
def O.i7:O->aq
 | .add=>rF| .lt=>BD| .lq=>tA| .xf=>Fe
def FC(p:az):aq:=if p then rF else tA
def wL:V:=.tuple [.str pU,.str j8]
def bO(d:V):V:=.tuple [.str tI,d]
def nB(u:U)(e:V):V:=match u with
 | .y1=>.tuple [.str fC,.none,e]| .yf=>.tuple [.str jN,e]| .call=>.tuple [.str pW,wL,.tuple [.tuple [e,.bool ag,.none]]]| .nt=>.tuple [.str oM,.str BE,e]| .neg=>.tuple [.str oM,.str m9,e]| .jP=>.tuple [.str tH,e]| .fF=>.tuple [.str mu,.str pY,e]| .iS=>.tuple [.str mu,.str tF,e]| .aN x=>.tuple [.str nV,cy x,e]| .op p x=>.tuple [.str jO,.str (FC p),cy x,e]| .bS sp=>.tuple [.str oO,.tuple [.tuple [.none,e,.bool ag,.bool sp]]]
def iR(i:V):V:=.tuple [.str kc,cy bz,i]
def sr(w:W)(a b:V):V:=match w with
 | .y2=>.tuple [.str fC,a,b]| .call=>.tuple [.str pW,wL,.tuple [.tuple [a,.bool ag,.none],.tuple [b,.bool ag,.none]]]| .bS sa sb=>.tuple [.str oO,.tuple [.tuple [.none,a,.bool ag,.bool sa],.tuple [.none,b,.bool ag,.bool sb]]]| .dY=>.tuple [.str tD,.tuple [bO (.str et),a,b]]| .d8=>.tuple [.str nV,iR a,b]| .fW p=>.tuple [.str jO,.str (FC p),iR a,b]
def aei(l:L)(a b:V):V:=match l with
 | .bq o=>.tuple [.str wz,.str o.i7,a,b]| .cS=>.tuple [.str kc,a,b]
def zZ(w h:V):V:=.tuple [.tuple [.tuple [bO w,bO h],bO<|.int 7],.tuple [.none,bO<|.int 8]]
noncomputable def ak:E->V
 | .lit d=>bO d| .var x=>cy x| .y0=>.tuple [.str fC,.none,.none]| .dW p x=>.tuple [.str pV,.str wh,.bool p,cy x]| .un u e=>nB u (ak e)| .bi w a b=>sr w (ak a) (ak b)| .la l a b=>aei l (ak a) (ak b)| .cN o a b=>.tuple [.str (if o then yM else wA),ak a,ak b]| .bW a b=>.tuple [.str wx,ak a,ak b]| .c7 a c=>.tuple [.str j7,ak a,.none,ak c]| .c6 a b c=>.tuple [.str j7,ak a,ak b,ak c]| .dz x e=>.tuple [.str jO,.str pR,cy x,ak e]| .c8 i e=>.tuple [.str jO,.str pR,iR (ak i),ak e]| .cZ e w h=>.tuple [.str rI,ak e,zZ w h]
def fY(k:az):V:=.tuple [.str (if k then wy else wu),.int 1]
mutual
noncomputable def aM:S->V
 | .ex e=>.tuple [.str lH,ak e]| .dT a=>.tuple [.str iz,.tuple [ak a]]| .ig a b=>.tuple [.str iz,.tuple [ak a,ak b]]| .fk k=>fY k| .jK=>.tuple [.str jt,.none]| .ret e=>.tuple [.str jt,ak e]| .gO b=>.tuple [.str tK,.tuple<|av b]| .b9 c b o k=>.tuple [.str j7,.tuple [.tuple [ak c,.tuple<|av b]],if k then .tuple (av o) else .none]| .dH c b c' b' o k=>.tuple [.str j7,.tuple [.tuple [ak c,.tuple<|av b],.tuple [ak c',.tuple<|av b']],if k then .tuple (av o) else .none]| .cM c b=>.tuple [.str nc,ak c,.tuple<|av b]| .c9 b c=>.tuple [.str wt,.tuple (av b),ak c]| .fe w b=>.tuple [.str wq,ak w,.none,cy ew,.bool ag,.tuple<|av b]| .sw c x y=>.tuple [.str yL,ak c,.tuple [.tuple [bO (.int 1),.tuple<|av x],.tuple [.none,.tuple<|av y],.tuple [bO (.int 2),.tuple [fY ae]]]]| .tr b f=>.tuple [.str yK,.tuple (av b),.tuple [],.tuple<|av f]
noncomputable def av:af S->af V
 |[]=>[]
 |s::r=>aM s::av r
end
structure St where
 vars:af (aq×V)
 bM:af V
 cW:aH
 b8:aH
 n:ai
noncomputable def St.root(s:St):bP:=.st s.vars s.bM s.cW s.b8
noncomputable def St.get(s:St)(x:aq):V:=(s.vars.lookup x).getD .none
noncomputable def St.gj(s:St)(d:V):St:={s with bM:=s.bM++[d],n:=s.n+1}
def St.rd(s:St)(x:aq):St:=if s.vars.any (λp=>p.1==x) then s else s.gj (.tuple [.str tC,.str x])
noncomputable def St.jH(s:St):St:={s with n:=s.n+1}
def St.bI(s:St)(x:aq)(v:V):St:={s with vars:=i8 s.vars x v}
def C3:af V:=[.int 3,.none,.str Mk,.int 0,.int 1]
def Ir(i:aH):V:=(C3[(i%5).toNat]?).getD .none
def St.lV(s:St)(d:V):V×St:=(Ir (s.b8+(s.cW+1)),{s with bM:=s.bM++[d],cW:=s.cW+1,n:=s.n+1})
def iB:V->V
 | .tuple _=>.str yN|v=>v
def dD(v a:V):V:=match v with
 | .tuple xs=>(xs[(dg a%xs.length).toNat]?).getD .none|_=>.none
noncomputable def EK(xs:af V):af V:=if xs.length=3 then xs else[.none,.none,.none]
def cells:V->af V
 | .tuple xs=>EK xs|_=>[.none,.none,.none]
def St.eH(s:St)(a v:V):St:=s.bI bz (.tuple<|(cells<|s.get bz).set (dg a%3).toNat (iB v))
def fP(o:O)(x y:V):V:=match o with
 | .add=>.int ((dg x+dg y)%10)| .lt=>.bool (decide (dg x<dg y))| .lq=>.str (kO<|cY x++cY y)| .xf=>.bool (dM (Ar x)<|Ar y)
noncomputable def ng(p:az):O:=if p then .add else .lq
def ql(xs:af V):af V:=fj xs (ab<|-4) aw
def fV(sp:az):V->af V
 | .tuple xs=>if sp then xs else[.str yN]|v=>[v]
noncomputable def dS:V->az
 | .none=>ae|_=>ag
def eO(u:U)(v:V)(s:St):V×St:=match u with
 | .y1=>s.lV (.tuple [.str fC,.none,v])| .yf=>s.lV (.tuple [.str BI,v])| .call=>(.int ((s.bM.length+1:ai)%4),s.gj<|.tuple [.str j8,v])
 | .nt=>(.bool (!bF v),s)
 | .neg=>(.int (-dg v%10),s)
 | .jP=>(.int 1,s.gj<|.tuple [.str iz,.str<|cY v])
 | .fF=>(.bool (bF v),s)
 | .iS=>(.str (cY v),s)
 | .aN x=>(v,s.bI x v)
 | .op p x=>(fP (ng p) (s.get x) v,(s.rd x).bI x<|fP (ng p) (s.get x) v)
 | .bS sp=>(.tuple (ql<|fV sp v),s)
def fG(w:W)(a b:V)(s:St):V×St:=match w with
 | .y2=>s.lV (.tuple [.str fC,a,b])| .call=>(.int ((s.bM.length+1:ai)%4),s.gj<|.tuple [.str j8,a,b])
 | .bS sa sb=>(.tuple (ql<|fV sa a++fV sb b),s)
 | .dY=>(.str (kO<|mS qc [kO et,cY a,cY b]),s)
 | .d8=>(b,s.eH a b)
 | .fW p=>(fP (ng p) (dD (s.get bz) a) b,(s.rd bz).eH a<|fP (ng p) (dD (s.get bz) a) b)
def gu(l:L)(a b:V):V:=match l with
 | .bq o=>fP o a b| .cS=>dD a b
noncomputable def cu:E->az
 | .var _=>ae|_=>ag
def d5:E->aq
 | .var x=>x|_=>qc
noncomputable def L.late:L->az
 | .bq _=>ae| .cS=>ag
def cD(v w:V):az:=dM (Ar v) (Ar w)
noncomputable def ev:E->St->V×St
 | .lit d,s=>(d,s)
 | .var x,s=>(s.get x,s.rd x)
 | .y0,s=>s.lV (.tuple [.str fC,.none,.none])| .dW p x,s=>(if p then .int (dg (s.get x)+1) else s.get x,((s.rd x).bI x<|.int (dg (s.get x)+1)).jH)
 | .un u e,s=>eO u (ev e s).1 (ev e s).2| .bi w a b,s=>fG w (ev a s).1 (ev b (ev a s).2).1 (ev b (ev a s).2).2| .la l a b,s=>if cu a&&!(cu b&&l.late) then(gu l (ev a (ev b s).2).1 (ev b s).1,(ev a (ev b s).2).2) else(gu l (ev a s).1 (ev b (ev a s).2).1,(ev b (ev a s).2).2)| .cN o a b,s=>if bF (ev a s).1=o then(.bool o,(ev a s).2) else(.bool (bF (ev b (ev a s).2).1),(ev b (ev a s).2).2)| .bW a b,s=>if dS (if cu a then(s.get (d5 a),s) else ev a s).1 then ev b (if cu a then(s.get (d5 a),s) else ev a s).2 else(if cu a then(s.get (d5 a),s) else ev a s)| .c7 a c,s=>if bF (ev a s).1 then ev a s else ev c (ev a s).2| .c6 a b c,s=>if bF (ev a s).1 then ev b (ev a s).2 else ev c (ev a s).2| .dz x e,s=>if dS (s.get x) then((ev e s).1,(ev e s).2.bI x (ev e s).1) else(s.get x,s)| .c8 i e,s=>if dS (dD ((ev i s).2.get bz) (ev i s).1) then((ev e (ev i s).2).1,(ev e (ev i s).2).2.eH (ev i s).1 (ev e (ev i s).2).1) else(dD ((ev i s).2.get bz) (ev i s).1,(ev i s).2)| .cZ e w h,s=>if cu e then(if cD (s.get<|d5 e) w then(.int 7,s.rd<|d5 e) else if cD (s.get<|d5 e) h then(.int 7,(s.rd<|d5 e).rd<|d5 e) else(.int 8,(s.rd<|d5 e).rd<|d5 e))
   else(if cD (ev e s).1 w||cD (ev e s).1 h then .int 7 else .int 8,(ev e s).2)
inductive Sg|nx|bk|ct|rt (v:V)
noncomputable def fO(x:aD (Sg×St))(k:St->aD (Sg×St)):aD (Sg×St):=match x with
 |some (.nx,s)=>k s|x=>x
noncomputable def gN(x:aD (Sg×St))(k:St->aD (Sg×St)):aD (Sg×St):=match x with
 |some (.nx,s)=>k s|some (.ct,s)=>k s|some (.bk,s)=>ab (.nx,s)|some (.rt v,s)=>ab (.rt v,s)|none=>aw
noncomputable def ja(t:St->az×St)(b:St->aD (Sg×St)):ai->St->aD (Sg×St)
 |0,_=>aw|n+1,s=>if(t s).1 then gN (b (t s).2) (ja t b n) else ab (.nx,(t s).2)
noncomputable def mF(b:St->aD (Sg×St)):af V->St->aD (Sg×St)
 |[],s=>ab (.nx,s)|x::xs,s=>gN (b<|s.bI ew x) (mF b xs)
noncomputable def t9:V->af V
 | .tuple xs=>xs|_=>[]
noncomputable def kI:aD (Sg×St)->aD (Sg×St)
 |some (.bk,s)=>ab (.nx,s)|some (.ct,s)=>ab (.nx,s)|x=>x
noncomputable def zG(g:Sg)(x:aD (Sg×St)):aD (Sg×St):=match x with
 |some (.nx,s)=>ab (g,s)|x=>x
def sX(x:aD (Sg×St))(f:St->aD (Sg×St)):aD (Sg×St):=match x with
 |some p=>zG p.1 (f p.2)|none=>aw
def ej(c:E)(s:St):ai×St:=
 if cu c then(if cD (s.get<|d5 c) (.int 1) then(0,s.rd<|d5 c) else if cD (s.get<|d5 c) (.int 2) then(2,(s.rd<|d5 c).rd<|d5 c) else(1,(s.rd<|d5 c).rd<|d5 c))
 else(if cD (ev c s).1 (.int 1) then 0 else if cD (ev c s).1 (.int 2) then 2 else 1,(ev c s).2)
def fB(c:E)(s:St):az×St:=(bF (ev c s).1,(ev c s).2)
noncomputable def yI:ai:=4
def lS(a:E)(s:St):St:=(ev a s).2.gj (.tuple [.str iz,.str<|cY (ev a s).1])
mutual
noncomputable def g6:S->St->aD (Sg×St)
 | .ex e,s=>ab (.nx,if cu e then s else(ev e s).2)| .dT a,s=>ab (.nx,lS a s)| .ig a b,s=>ab (.nx,lS b<|lS a s)| .fk k,s=>ab (if k then .bk else .ct,s)| .jK,s=>ab (.rt .none,s)| .ret e,s=>ab (.rt (ev e s).1,(ev e s).2)| .gO b,s=>run b s| .b9 c b o _,s=>if(fB c s).1 then run b (fB c s).2 else run o (fB c s).2| .dH c b c' b' o _,s=>if(fB c s).1 then run b (fB c s).2 else if(fB c' (fB c s).2).1 then run b' (fB c' (fB c s).2).2 else run o (fB c' (fB c s).2).2| .cM c b,s=>ja (fB c) (run b) yI s| .c9 b c,s=>gN (run b s) (ja (fB c) (run b) 3)| .fe w b,s=>mF (run b) (t9 (ev w s).1) (ev w s).2| .sw c x y,s=>kI (if(ej c s).1=0 then fO (run x (ej c s).2) (run y) else if(ej c s).1=1 then run y (ej c s).2 else ab (.nx,(ej c s).2))| .tr b f,s=>sX (run b s) (run f)
noncomputable def run:af S->St->aD (Sg×St)
 |[],s=>ab (.nx,s)|x::r,s=>fO (g6 x s) (run r)
end
end
section
noncomputable def Txt(s:aq):Prop:=s.length<=6/\∀c∈s.cps.toList,c<200
def dr(n:ai):V->Prop
 | .none| .bool _=>True| .int i=>i.natAbs<=n+10| .str s=>Txt s|_=>False
def bu(n:ai):V->Prop
 | .tuple xs=>xs.length<=4/\∀d∈xs,dr n d|v=>dr n v
noncomputable def jj(x:aq):Prop:=(0<x.length/\x.length<=20)/\∀c∈x.cps.toList,c<200
def aG(k:ai):aq:=pS++fU (toString (k:aH))
def cP(k:ai):aq:=Fm++fU (toString (k:aH))
def gX:af aq:=[i9,gB,ew,wj,bz]
def Nm(c:az)(x:aq):Prop:=x∈gX\/(∃k,k<20/\x=cP k)\/(c=ag/\∃k,k<=12000/\x=aG k)
def VE(n:ai)(v:V):Prop:=bu n v\/∃x,v=.str x/\jj x
def pf(n:ai)(d:V):Prop:=∃q xs,d=.tuple (.str q::xs)/\jj q/\xs.length<=2/\∀x∈xs,VE n x
structure bX(c:az)(s:St):Prop where
 bM:s.bM.length<=s.n
 bT:∀p∈s.vars,bu s.n p.2
 qI:∀d∈s.bM,pf s.n d
 iP:∀p∈s.vars,Nm c p.1
 nd:(s.vars.map (·.1)).Nodup
 d:bz∈s.vars.map fK
structure Ge(c:az)(s:St)(p:V×St):Prop where
 g:bX c p.2
 v:bu p.2.n p.1
 n:s.n<=p.2.n
end
theorem dr.aU{n m:ai}(h:n<=m){v:V}(x:dr n v):dr m v:=by
 cases v with
 |int i=>exact aj (show i.natAbs<=n+10 from x) (dP h 10)|_=>exact x
theorem dr.ok{n:ai}{v:V}(x:dr n v):bu n v:=by
 cases v with
 |tuple _=>exact x.elim|_=>exact x
theorem bu.aU{n m:ai}{v:V}(x:bu n v)(h:n<=m):bu m v:=by
 cases v with
 |tuple xs=>exact⟨x.1,λd hd=>(x.2 d hd).aU h⟩|int i=>exact dr.aU (v:=.int i) h x|_=>exact x
theorem bu.mn{n:ai}{v:V}(x:bu n v):oj v:=by
 cases v with
 |str s=>exact aj (show s.length<=6 from x.1) aa|tuple xs=>exact aj x.1 aa|list _=>exact x.elim|dict _=>exact x.elim|_=>trivial
theorem VE.aU{n m:ai}{v:V}(x:VE n v)(h:n<=m):VE m v:=x.imp (λx=>x.aU h) id
theorem pf.aU{n m:ai}{v:V}(x:pf n v)(h:n<=m):pf m v:=x.imp λ_=>.imp λ_=>.imp id (.imp id<|.imp id λh2 x hx=>(h2 x hx).aU h)
theorem QF(n:ai):clipAt (n+1) 1=1:=(clipAt_nat (n+1) 1).trans (Nat.min_eq_left<|bG (bQ n))
theorem QH{m k:ai}(h:m<=k)(hk:1<=k):clipAt m (-(k:aH))=0:=(clipAt_neg m k hk).trans (SY h)
theorem Lv{α:Type}(xs:af α)(n:ai)(hn:0<n):(fj xs (ab<|-(n:aH)) aw).length<=n/\∀x∈fj xs (ab<|-(n:aH)) aw,x∈xs:=
 ⟨aj (List.length_take_le ..) (by
  show xs.length-clipAt xs.length (-(n:aH))<=n
  rw[clipAt_neg _ _ hn]
  exact Nat.sub_le_iff_le_add'.mpr<|Nat.sub_le_iff_le_add.mp (aF _)),λ_ hx=>aji<|S9 hx⟩
theorem Gx{s:aq}(h:∀c∈s.cps.toList,c<200):Txt (kO s):=
 let q:=Lv s.cps.toList 6 aa
 ⟨q.1,λc hc=>h c<|q.2 c hc⟩
theorem Oi{n:ai}{xs:af V}(h:∀d∈xs,dr n d):bu n (.tuple<|ql xs):=
 let q:=Lv xs 4 aa
 ⟨q.1,λd hd=>h d<|q.2 d hd⟩
theorem aew(i:aH):Txt (fU<|toString (i%10)):=by
 have key:∀j:Fin 10,(fU<|toString ((j.val:ai):aH)).length<=6/\∀c∈(fU<|toString ((j.val:ai):aH)).cps.toList,c<200:=by decide+kernel
 have h0:0<=i%10:=AG _ aa
 have h1:i%10<10:=DW _ aa
 have:=key ⟨(i%10).toNat,(Tp h0).mpr h1⟩
 rwa[vd h0] at this
theorem z0(a b:aq):(a++b).cps.toList=a.cps.toList++b.cps.toList:=DY (xs:=a.cps) (ys:=b.cps)
theorem xm{a b:aq}(ha:∀c∈a.cps.toList,c<200)(hb:∀c∈b.cps.toList,c<200):∀c∈(a++b).cps.toList,c<200:=λc hc=>
 (iX.mp<|z0 a b▸hc).elim (ha c) (hb c)
theorem EC:Txt yN:=by constructor<;>decide
theorem Bc:Txt qc:=by constructor<;>decide
theorem m6{n:ai}{v:V}(x:bu n v):Txt (cY v):=by
 cases v with
 |str s=>exact Gx x.2|tuple _=>exact EC|bool b=>cases b;exact Bc;exact⟨aa,aa⟩|int i=>exact aew i|_=>exact Bc
theorem gS(n m:ai)(h:m<=10):m<=n+10:=aj h (bY 10 n)
theorem ZV{n:ai}{v:V}(x:bu n v):(dg v).natAbs<=n+10:=by
 cases v with
 |str s=>exact gS n _ (aj x.1 aa)|tuple xs=>exact gS n _ (aj x.1 aa)|none=>exact bQ _|bool b=>cases b;exact bQ _;exact gS n 1 aa|int i=>exact x|list _=>exact x.elim|dict _=>exact x.elim
theorem B2(n:ai)(a:aH){m:aH}(h:0<m)(h':m<=10):(a%m).natAbs<=n+10:=
 gS n _ (ve.mp<|qZ (AF<|ajB (AG a<|AD h)) (qZ (vf<|DW a h) h'))
theorem BP{n:ai}(o:O){x y:V}(hx:bu n x)(hy:bu n y):dr n (fP o x y):=by
 cases o with
 |add=>exact B2 n (dg x+dg y) aa aa|lq=>exact Gx (xm (m6 hx).2 (m6 hy).2)|_=>trivial
theorem adb{n:ai}{v:V}(x:bu n v):dr n (iB v):=by
 cases v with
 |tuple _=>exact EC|_=>exact x
theorem acY{n:ai}{xs:af V}(h:∀d∈xs,dr n d)(o:aD V)(e:∀d,o=ab d->d∈xs):dr n (o.getD .none):=by
 cases o with
 |none=>trivial|some d=>exact h d (e d rfl)
theorem zH{n:ai}{v a:V}(x:bu n v):dr n (dD v a):=by
 cases v with
 |tuple xs=>exact acY x.2 _ λd h=>xM h|_=>trivial
theorem EX{n:ai}{sp:az}{v:V}(h:bu n v):∀d∈fV sp v,dr n d:=by
 have bh:∀{v:V},dr n v->∀d∈[v],dr n d:=λh d hd=>(cU.mp hd)▸h
 cases v with
 |tuple xs=>cases sp;exact bh EC;exact h.2|_=>exact bh h
theorem aO{α:Type}(P:α->Prop){p:Prop}[d:Decidable p]{a b:α}(h:p->P a)(h':¬p->P b):P (if p then a else b):=by
 cases d with
 |isTrue q=>exact h q|isFalse q=>exact h' q
theorem Na{n:ai}:∀d∈([.none,.none,.none]:af V),dr n d:=λd hd=>by
 simp only [dX,gA,or_false,or_self] at hd;subst hd;trivial
theorem ae5{n:ai}{v:V}(h:bu n v):∀d∈cells v,dr n d:=by
 cases v with
 |tuple xs=>exact aO (λxs=>∀d∈xs,dr n d) (λ_=>h.2) λ_=>Na|_=>exact Na
theorem ae8(v:V):(cells v).length=3:=by
 cases v with
 |tuple xs=>exact aO (λxs:af V=>xs.length=3) id λ_=>rfl|_=>rfl
structure o8(v:V):Prop where
 Wm:v.showable=ae
 len:v.shown.length<=16777216
 dep:v.depth<=100
structure Pv(w d:ai)(v:V):Prop where
 s:v.showable=ae
 l:v.leavesShort 13=ae
 w:v.weight<=w
 d:v.depth<=d
theorem Pv.nP{w d:ai}{v:V}(p:Pv w d v)(hw:w<=1048576)(f6:d<=100):o8 v:=⟨p.s,Sf▸PyData.shown_fits (B:=13) aa aa p.l (aj p.w hw),aj p.d f6⟩
theorem Pv.le{w d w' d':ai}{v:V}(p:Pv w d v)(hw:w<=w')(hd:d<=d'):Pv w' d' v:=⟨p.s,p.l,aj p.w hw,aj p.d hd⟩
theorem NZ{m:ai}(h:m<=100010)(h0:m≠0):m.log2<17:=(S3 h0).mpr (lB h aa)
theorem Fx{i:aH}(h:i.natAbs<=100010):Pv 17 0 (.int i):=by
 refine⟨?_,?_,?_,aF _⟩
 ·refine gQ (pE (λh0:i.natAbs=0=>h0▸by decide) λh0=>j1 (NZ h h0) aa)
 ·exact gQ (PyData.shown_int_le<|lB h aa)
 ·simp only [PyData.weight]
  split
  ·decide
  ·rename_i hz
   exact NZ h (by simpa using hz)
theorem ae2{s:aq}(h:∀c∈s.cps.toList,c<200):(jn s).leavesShort 13=ae:=sP.mpr λc hc=>gQ (j1 (h c hc) aa)
theorem Fw{s:aq}(h:s.length<=20)(h':∀c∈s.cps.toList,c<200):Pv 20 0 (.str s):=⟨rfl,ae2 h',h,aF _⟩
theorem dr.pv{n:ai}{v:V}(x:dr n v)(hn:n<=100000):Pv 20 0 v:=by
 cases v with
 |none=>exact⟨rfl,rfl,aa,aF _⟩|bool b=>exact⟨rfl,rfl,by cases b<;>decide,aF _⟩|int i=>exact(Fx<|aj (show i.natAbs<=n+10 from x) (dP hn 10)).le aa aa|str s=>exact Fw (aj x.1 aa) x.2|tuple _=>exact x.elim|list _=>exact x.elim|dict _=>exact x.elim
theorem Pv.all{w d:ai}:∀{xs:af V},(∀x∈xs,Pv w d x)->air xs=ae/\ais 13 xs=ae/\DD xs<=(w+1)*xs.length/\mT xs<=d
 |[],_=>⟨rfl,rfl,bQ _,bQ _⟩
 |x::xs,h=>
  let ih:=Pv.all (xs:=xs) λy hy=>h y (iE _ hy)
  let k:=h x (gZ ..)
  ⟨dc.mpr ⟨k.s,ih.1⟩,dc.mpr ⟨k.l,ih.2.1⟩,aj (cQ (bG k.w) ih.2.2.1) (bA<|l7 (w+1) ((w+1)*xs.length)),xK.mpr ⟨k.d,ih.2.2.2⟩⟩
theorem Pv.aC{w d n:ai}{xs:af V}(h:∀x∈xs,Pv w d x)(hn:xs.length<=n):Pv ((w+1)*n) (d+1) (.tuple xs):=
 let q:=Pv.all h
 ⟨q.1,q.2.1,aj q.2.2.1 (lA _ hn),bG q.2.2.2⟩
theorem Pv.ah{w d n:ai}{xs:af V}(h:∀x∈xs,Pv w d x)(hn:xs.length<=n):Pv ((w+1)*n) (d+1) (.list xs):=
 let q:=Pv.all h
 ⟨q.1,q.2.1,aj q.2.2.1 (lA _ hn),bG q.2.2.2⟩
theorem bu.pv{n:ai}{v:V}(x:bu n v)(hn:n<=100000):Pv 84 1 v:=by
 have f:∀{v:V},dr n v->Pv 84 1 v:=λx=>(dr.pv x hn).le aa aa
 cases v with
 |tuple xs=>exact Pv.aC (λd hd=>(x.2 d hd).pv hn) x.1|_=>exact f x
theorem bu.nP{n:ai}{v:V}(x:bu n v)(hn:n<=100000):o8 v:=(x.pv hn).nP aa aa
theorem tv{v:V}(h:o8 v):gY .repr v=ab (.val<|.str v.shown):=
 a9 (dc.mpr ⟨dc.mpr ⟨h.Wm,gQ h.len⟩,gQ h.dep⟩)
theorem adg:∀x∈gX,jj x:=by
 intro x hx
 simp only [gX,dX,gA,or_false] at hx
 rcases hx with rfl|rfl|rfl|rfl|rfl<;>exact⟨aa,aa⟩
theorem aex{d:Char}(h:d.isDigit=ae):d.toNat<200:=
 lB (show d.toNat<=57 from eV (dc.mp h).2) aa
theorem BU{n:ai}(h:n<1000000):Txt (fU<|toString (n:aH)):=by
 rw[show fU (toString (n:aH))=⟨((aiY 10 n).map q0).toArray⟩ from akt n]
 refine⟨show((aiY 10 n).map q0).length<=6 from(iF q0).symm▸akP aa h,λc hc=>?_⟩
 obtain⟨d,hd,rfl⟩:=eE.mp hc
 exact aex (Nat.isDigit_of_mem_toDigits aa aa hd)
theorem Nf{a b:aq}(ha:a.length=1)(h:∀c∈a.cps.toList,c<200)(hb:Txt b):jj (a++b):=
 have e:(a++b).length=1+b.length:=ha▸R6 a b
 ⟨⟨e▸Jj Nat.zero_lt_one (aW 1 _),e▸aj (bK hb.1 1) aa⟩,xm h hb.2⟩
theorem Nm.ok{c:az}{x:aq}(h:Nm c x):jj x:=
 h.elim (adg x) λh=>h.elim (λ⟨_,h1,h2⟩=>h2▸Nf aa aa (BU<|j1 h1 aa)) λ⟨_,_,h1,h2⟩=>h2▸Nf aa aa (BU<|lB h1 aa)
theorem Nm.d{c:az}:Nm c bz:=.inl aa
theorem Nm.c{c:az}:Nm c ew:=.inl aa
theorem zF{n:ai}{q:aq}{x:V}(h:jj q)(hx:VE n x):pf n (.tuple [.str q,x]):=⟨q,[x],rfl,h,aR 1,λ_ hy=>cU.mp hy▸hx⟩
theorem CP{n:ai}{q:aq}{x y:V}(h:jj q)(hx:VE n x)(hy:VE n y):pf n (.tuple [.str q,x,y]):=⟨q,[x,y],rfl,h,aF 2,λ_ hz=>(dX.mp hz).elim (λe=>e▸hx) λhz=>cU.mp hz▸hy⟩
theorem F4:jj fC:=⟨aa,aa⟩
theorem aan:jj BI:=⟨aa,aa⟩
theorem Nw:jj j8:=⟨aa,aa⟩
theorem Ny:jj iz:=⟨aa,aa⟩
theorem aal:jj tC:=⟨aa,aa⟩
theorem lK{l:af (aq×V)}{a:aq}{b:V}(h:l.lookup a=ab b):(a,b)∈l:=by
 induction l with
 |nil=>cases h|cons p l ih=>
  have h:(match a==p.1 with|true=>ab p.2|false=>l.lookup a)=ab b:=h
  cases q:a==p.1 with
  |true=>rw[q] at h;cases h;exact(uQ q)▸gZ ..|false=>rw[q] at h;exact iE _ (ih h)
theorem Pz{n:ai}(o:aD V)(e:∀d,o=ab d->bu n d):bu n (o.getD .none):=by
 cases o with
 |none=>trivial|some d=>exact e d rfl
section
variable{c:az}{s:St}{x:aq}{v w:V}
theorem bX.get(g:bX c s)(x:aq):bu s.n (s.get x):=Pz _ λ_ h=>g.bT _ (lK h)
theorem bX.gj{d:V}(g:bX c s)(h:pf s.n d):bX c (s.gj d) where
 bM:=aj (bA eX) (bG g.bM)
 bT:=λp hp=>(g.bT p hp).aU (aR _)
 qI:=λ_ he=>(iX.mp he).elim (λhe=>(g.qI _ he).aU<|aR _) λhe=>(cU.mp he)▸h.aU (aR _)
 iP:=g.iP
 nd:=g.nd
 d:=g.d
theorem bX.jH(g:bX c s):bX c s.jH:=⟨j2 g.bM,λp hp=>(g.bT p hp).aU (aR _),λe he=>(g.qI e he).aU (aR _),g.iP,g.nd,g.d⟩
theorem bX.rd(g:bX c s)(h:Nm c x):bX c (s.rd x):=aO (bX c) (λ_=>g) λ_=>g.gj (zF aal<|.inr ⟨x,rfl,h.ok⟩)
theorem gm(s:St)(x:aq):s.n<=(s.rd x).n:=aO (λt:St=>s.n<=t.n) (λ_=>aF _) λ_=>aR _
theorem E8(s:St)(x:aq):(s.rd x).vars=s.vars:=aO (λt:St=>t.vars=s.vars) (λ_=>rfl) λ_=>rfl
theorem Xo(s:St)(x y:aq):(s.rd x).get y=s.get y:=ay (λl=>(Jp y l).getD As) (E8 s x)
theorem Wz{l:af (aq×V)}{k:aq}{v:V}:∀{p:aq×V},p∈i8 l k v->p.2=v\/p∈l:=by
 refine aO (λm:af (aq×V)=>∀{p:aq×V},p∈m->p.2=v\/p∈l) (λ_ p hp=>?_) λ_ p hp=>(iX.mp hp).elim .inr λhp=>.inl ((cU.mp hp)▸rfl)
 obtain⟨q,hq,rfl⟩:=eE.mp hp
 exact aO (λp:aq×V=>p.2=v\/p∈l) (λ_=>.inl rfl) λ_=>.inr hq
theorem aaE(l:af (aq×V))(k:aq)(v:V):(l.map λkv=>if kv.1=k then(kv.1,v) else kv).map (·.1)=l.map (·.1):=by
 rw[ajk];exact ajm λq _=>aO (λp:aq×V=>p.1=q.1) (λ_=>rfl) λ_=>rfl
theorem E1(l:af (aq×V))(k:aq)(v:V):(i8 l k v).map fK=l.map fK\/((i8 l k v).map fK=l.map fK++[k]/\k∉l.map fK):=
 aO (λm:af (aq×V)=>m.map fK=l.map fK\/(m.map fK=l.map fK++[k]/\k∉l.map fK)) (λ_=>.inl<|aaE l k v) λq=>.inr ⟨Az (f:=fK) (l₁:=l) (l₂:=[(k,v)]),λh=>by
  obtain⟨p,hp,e⟩:=eE.mp h
  exact q<|DU.mpr ⟨p,hp,gQ e⟩⟩
theorem bX.bI(g:bX c s)(hx:Nm c x)(h:bu s.n v):bX c (s.bI x v) where
 bM:=g.bM
 bT:=λp hp=>(Wz hp).elim (λe=>e▸h) (g.bT p)
 qI:=g.qI
 iP:=λp hp=>by
  have hm:=Tb (f:=(·.1)) hp
  have old:p.1∈s.vars.map (·.1)->Nm c p.1:=λh=>by
   obtain⟨q,hq,e⟩:=eE.mp h
   exact e▸g.iP q hq
  exact(E1 s.vars x v).elim (λe=>old<|e▸hm) λe=>(iX.mp<|e.1▸hm).elim old λh=>cU.mp h▸hx
 nd:=(E1 s.vars x v).elim (λe=>e.symm▸g.nd) λe=>e.1.symm▸ow.mpr ⟨g.nd,S5 _ x,λa ha b hb h=>e.2<|cU.mp hb▸h▸ha⟩
 d:=(E1 s.vars x v).elim (λe=>e.symm▸g.d) λe=>e.1.symm▸pB _ g.d
theorem ahh(n:ai)(i:aH):bu n (Ir i):=Pz _ λd h=>by
 have hm:d∈C3:=xM h
 simp only [C3,dX,gA,or_false] at hm
 rcases hm with rfl|rfl|rfl|rfl|rfl
 ·exact gS n 3 aa
 ·trivial
 ·exact⟨aa,aa⟩
 ·exact gS n 0 aa
 ·exact gS n 1 aa
theorem bX.lV{d:V}(g:bX c s)(h:pf s.n d):Ge c s (s.lV d):=
 have k:=g.gj h
 ⟨⟨k.bM,k.bT,k.qI,k.iP,k.nd,k.d⟩,ahh _ _,aR _⟩
theorem YH{n:ai}{u:V}(i:ai)(h:bu n u)(hv:bu n v):bu n (.tuple<|(cells u).set i (iB v)):=
 ⟨aj (bA<|pC.trans (ae8 u)) aa,λ_ hd=>(List.mem_or_eq_of_mem_set hd).elim (ae5 h _) λq=>q▸adb hv⟩
theorem bX.eH(g:bX c s)(h:bu s.n v):bX c (s.eH w v):=g.bI .d (YH _ (g.get bz) h)
def nJ(c:az):U->Prop
 | .aN x=>Nm c x| .op _ x=>Nm c x|_=>True
theorem Ry{u:U}(hu:nJ c u)(g:bX c s)(h:bu s.n v):Ge c s (eO u v s):=by
 cases u with
 |y1=>exact g.lV (CP F4 (.inl trivial)<|.inl h)|yf=>exact g.lV (zF aan<|.inl h)|call=>exact⟨g.gj (zF Nw<|.inl h),B2 (m:=4) _ _ aa aa,aR _⟩|nt=>exact⟨g,trivial,aF _⟩|neg=>exact⟨g,B2 (m:=10) _ _ aa aa,aF _⟩|jP=>exact⟨g.gj (zF Ny<|.inl (m6 h)),gS _ 1 aa,aR _⟩|fF=>exact⟨g,trivial,aF _⟩|iS=>exact⟨g,m6 h,aF _⟩|aN x=>exact⟨g.bI hu h,h,aF _⟩|op p x=>
  have o:=(BP (ng p) (g.get x) h).ok.aU (gm s x)
  exact⟨(g.rd hu).bI hu o,o,gm s x⟩
 |bS sp=>exact⟨g,Oi (EX h),aF _⟩
theorem abH{a b c:aq}(ha:∀x∈a.cps.toList,x<200)(hb:∀x∈b.cps.toList,x<200)(hc:∀x∈c.cps.toList,x<200):∀x∈(mS qc [a,b,c]).cps.toList,x<200:=
 xm (xm ha Bc.2) (xm (xm hb Bc.2) hc)
theorem Rw{k:W}(g:bX c s)(hv:bu s.n v)(hw:bu s.n w):Ge c s (fG k v w s):=by
 cases k with
 |y2=>exact g.lV (CP F4 (.inl hv)<|.inl hw)|call=>exact⟨g.gj (CP Nw (.inl hv)<|.inl hw),B2 (m:=4) _ _ aa aa,aR _⟩|bS sa sb=>exact⟨g,Oi λd hd=>(iX.mp hd).elim (EX hv d) (EX hw d),aF _⟩|dY=>exact⟨g,Gx (abH aa (m6 hv).2 (m6 hw).2),aF _⟩|d8=>exact⟨g.eH hw,hw,aF _⟩|fW p=>
  have o:=(BP (ng p) (zH (a:=v)<|g.get bz).ok hw).ok.aU (gm s bz)
  exact⟨(g.rd .d).eH o,o,gm s bz⟩
end
noncomputable def qp:U->az
 | .y1=>ae| .yf=>ae|_=>ag
noncomputable def Cm:W->az
 | .y2=>ae|_=>ag
noncomputable def Y:E->az
 | .lit _=>ag| .var _=>ag| .y0=>ae| .dW _ _=>ag| .un u e=>qp u||Y e| .bi w a b=>Cm w||(Y a||Y b)| .la _ a b=>Y a||Y b| .cN _ a b=>Y a||Y b| .bW a b=>Y a||Y b| .c7 a c=>Y a||Y c| .c6 a b c=>Y a||(Y b||Y c)| .dz _ e=>Y e| .c8 i e=>Y i||Y e| .cZ e _ _=>Y e
noncomputable def lN:E->az
 | .la .cS _ _=>ae|_=>ag
inductive aL(c:az):ai->E->Prop
 |lit {h d}:dr 0 d->aL c h (.lit d)
 |var {h x}:Nm c x->aL c h (.var x)
 |y0 {h}:aL c h .y0
 |dW {h p x}:Nm c x->aL c h (.dW p x)
 |un {h u e}:nJ c u->aL c h e->aL c (h+1) (.un u e)
 |bi {h w a b}:aL c h a->aL c h b->aL c (h+1) (.bi w a b)
 |la {h l a b}:aL c h a->aL c h b->aL c (h+1) (.la l a b)
 |cN {h o a b}:aL c h a->aL c h b->aL c (h+1) (.cN o a b)
 |bW {h a b}:aL c h a->aL c h b->(c=ae->(Y a&&lN a)=ag)->aL c (h+1) (.bW a b)
 |c7 {h a b}:aL c h a->aL c h b->aL c (h+1) (.c7 a b)
 |c6 {h a b d}:aL c h a->aL c h b->aL c h d->aL c (h+1) (.c6 a b d)
 |dz {h x e}:Nm c x->aL c h e->aL c (h+1) (.dz x e)
 |c8 {h a b}:aL c h a->aL c h b->aL c (h+1) (.c8 a b)
 |cZ {h e w v}:aL c h e->dr 0 w->dr 0 v->aL c (h+1) (.cZ e w v)
mutual
inductive fH(c:az):ai->S->Prop
 |ex {h e}:aL c h e->fH c (h+1) (.ex e)
 |dT {h e}:aL c h e->fH c (h+1) (.dT e)
 |ig {h a b}:aL c h a->aL c h b->fH c (h+1) (.ig a b)
 |fk {h k}:fH c h (.fk k)
 |jK {h}:fH c h .jK
 |ret {h e}:aL c h e->fH c (h+1) (.ret e)
 |gO {h b}:bR c h b->fH c (h+1) (.gO b)
 |b9 {h e b o k}:aL c h e->bR c h b->bR c h o->(k=ag->o=[])->fH c (h+1) (.b9 e b o k)
 |dH {h e b e' b' o k}:aL c h e->bR c h b->aL c h e'->bR c h b'->bR c h o->(k=ag->o=[])->fH c (h+1) (.dH e b e' b' o k)
 |cM {h e b}:aL c h e->bR c h b->fH c (h+1) (.cM e b)
 |c9 {h e b}:aL c h e->bR c h b->fH c (h+1) (.c9 b e)
 |fe {h sa sb x y b}:aL c h (.bi (.bS sa sb) x y)->bR c h b->fH c (h+1) (.fe (.bi (.bS sa sb) x y) b)
 |sw {h e x y}:aL c h e->bR c h x->bR c h y->fH c (h+1) (.sw e x y)
 |tr {h b f}:bR c h b->bR c h f->fH c (h+1) (.tr b f)
inductive bR(c:az):ai->af S->Prop
 |nil {h}:bR c h []
 |cons {h s r}:fH c h s->bR c h r->(c=ae->r.length<=3)->bR c h (s::r)
end
section
variable{c:az}
theorem m4{h:ai}{e:E}(o:aL c h e):cu e=ae->Nm c (d5 e):=by
 induction o with
 |var q=>exactλ_=>q|_=>exactλh=>nomatch h
theorem cX{h:ai}{e:E}(o:aL c h e):∀s,bX c s->Ge c s (ev e s):=by
 induction o with
 |lit q=>exactλs g=>⟨g,(dr.ok q).aU (bQ _),aF _⟩
 |var q=>exactλs g=>⟨g.rd q,(g.get _).aU (gm s _),gm s _⟩
 |y0=>exactλs g=>g.lV (CP F4 (.inl trivial)<|.inl trivial)|@dW _ p x q=>
  intro s g
  have k:bu (s.n+1) (.int<|dg (s.get x)+1):=aj (Int.natAbs_add_le _ _) (aj (bG<|ZV (g.get x))<|bA (Au s.n 10).symm)
  have k':=k.aU (bG<|gm s x)
  have n:=aj (gm s x) (aR _)
  refine⟨?_,aO (bu _) (λ_=>k') λ_=>(g.get x).aU n,n⟩
  exact(g.rd q).jH.bI q k'
 |un hu _ ih=>exactλs g=>have k:=ih s g;have r:=Ry hu k.g k.v;⟨r.g,r.v,aj k.n r.n⟩|bi _ _ aE aJ=>exactλs g=>have a:=aE s g;have b:=aJ _ a.g;have r:=Rw b.g (a.v.aU b.n) b.v;⟨r.g,r.v,aj a.n<|aj b.n r.n⟩|@la _ l _ _ _ _ aE aJ=>
  have key:∀{m:ai}{x y:V},bu m x->bu m y->bu m (gu l x y):=λhx hy=>by
   cases l with
   |bq q=>exact(BP q hx hy).ok|cS=>exact(zH hx).ok
  exactλs g=>aO (Ge c s) (λ_=>have b:=aJ s g;have a:=aE _ b.g;⟨a.g,key a.v (b.v.aU a.n),aj b.n a.n⟩) λ_=>have a:=aE s g;have b:=aJ _ a.g;⟨b.g,key (a.v.aU b.n) b.v,aj a.n b.n⟩
 |cN _ _ aE aJ=>exactλs g=>have a:=aE s g;have b:=aJ _ a.g;aO (Ge c s) (λ_=>⟨a.g,trivial,a.n⟩) λ_=>⟨b.g,trivial,aj a.n b.n⟩
 |@bW _ a b oa _ _ aE aJ=>
  intro s g
  have k:Ge c s (if cu a then(s.get (d5 a),s) else ev a s):=aO (Ge c s) (λ_=>⟨g,g.get _,aF _⟩) λ_=>aE s g
  have b:=aJ _ k.g
  exact aO (Ge c s) (λ_=>⟨b.g,b.v,aj k.n b.n⟩) λ_=>k
 |c7 _ _ aE aJ=>exactλs g=>have a:=aE s g;have b:=aJ _ a.g;aO (Ge c s) (λ_=>a) λ_=>⟨b.g,b.v,aj a.n b.n⟩
 |c6 _ _ _ aE aJ gW=>exactλs g=>have a:=aE s g;have b:=aJ _ a.g;have d:=gW _ a.g;aO (Ge c s) (λ_=>⟨b.g,b.v,aj a.n b.n⟩) λ_=>⟨d.g,d.v,aj a.n d.n⟩
 |dz q _ ih=>exactλs g=>have k:=ih s g;aO (Ge c s) (λ_=>⟨k.g.bI q k.v,k.v,k.n⟩) λ_=>⟨g,g.get _,aF _⟩
 |c8 _ _ aE aJ=>exactλs g=>have a:=aE s g;have b:=aJ _ a.g;aO (Ge c s) (λ_=>⟨b.g.eH b.v,b.v,aj a.n b.n⟩) λ_=>⟨a.g,(zH<|a.g.get bz).ok,a.n⟩
 |@cZ _ e w v o _ _ ih=>
  intro s g
  have k:=ih s g
  refine aO (Ge c s) (λhv=>?_) λ_=>⟨k.g,aO (bu _) (λ_=>gS _ 7 aa) λ_=>gS _ 8 aa,k.n⟩
  have g1:=g.rd (m4 o hv)
  have g2:=g1.rd (m4 o hv)
  have n2:=aj (gm s<|d5 e) (gm _ (d5 e))
  exact aO (Ge c s) (λ_=>⟨g1,gS _ 7 aa,gm s _⟩) λ_=>aO (Ge c s) (λ_=>⟨g2,gS _ 7 aa,n2⟩) λ_=>⟨g2,gS _ 8 aa,n2⟩
def C8(n:ai):Sg->Prop
 | .rt v=>bu n v|_=>True
def Gr(c:az)(n:ai)(x:aD (Sg×St)):Prop:=∀g t,x=ab (g,t)->bX c t/\C8 t.n g/\n<=t.n
theorem Gr.nx{n:ai}{s:St}(g:bX c s)(h:n<=s.n):Gr c n (ab (.nx,s)):=λ_ _ e=>by cases e;exact⟨g,trivial,h⟩
theorem Gr.of{n:ai}{s:St}{q:Sg}(g:bX c s)(k:C8 s.n q)(h:n<=s.n):Gr c n (ab (q,s)):=λ_ _ e=>by cases e;exact⟨g,k,h⟩
theorem Gr.none{n:ai}:Gr c n aw:=λ_ _ e=>nomatch e
theorem Gr.le{n m:ai}{x:aD (Sg×St)}(h:Gr c m x)(hn:n<=m):Gr c n x:=λg t e=>(h g t e).imp id (.imp id<|aj hn)
theorem Gr.seq{n:ai}{x:aD (Sg×St)}{k:St->aD (Sg×St)}(h:Gr c n x)(hk:∀s,bX c s->Gr c s.n (k s)):Gr c n (fO x k):=by
 cases x with
 |none=>exact h|some p=>
  cases p with|mk g s=>
  have q:=h g s rfl
  cases g with
  |nx=>exact(hk s q.1).le q.2.2|_=>exact h
theorem Gr.on{n:ai}{x:aD (Sg×St)}{k:St->aD (Sg×St)}(h:Gr c n x)(hk:∀s,bX c s->Gr c s.n (k s)):Gr c n (gN x k):=by
 cases x with
 |none=>exact h|some p=>
  cases p with|mk g s=>
  have q:=h g s rfl
  cases g with
  |nx=>exact(hk s q.1).le q.2.2|ct=>exact(hk s q.1).le q.2.2|bk=>exact .nx q.1 q.2.2|rt v=>exact h
theorem Gr.sw{n:ai}{x:aD (Sg×St)}(h:Gr c n x):Gr c n (kI x):=by
 cases x with
 |none=>exact h|some p=>
  cases p with|mk g s=>
  have q:=h g s rfl
  cases g with
  |bk=>exact .nx q.1 q.2.2|ct=>exact .nx q.1 q.2.2|_=>exact h
theorem Gr.tr{n:ai}{x:aD (Sg×St)}{k:St->aD (Sg×St)}(h:Gr c n x)(hk:∀s,bX c s->Gr c s.n (k s)):Gr c n (sX x k):=by
 cases x with
 |none=>exact h|some p=>
  cases p with|mk g s=>
  have q:=h g s rfl
  have r:=hk s q.1
  show Gr c n (zG g<|k s)
  cases hx:k s with
  |none=>exact .none|some p'=>
   cases p' with|mk g' s'=>
   have q':=r g' s' hx
   cases g' with
   |nx=>exact .of q'.1 (by cases g with|rt v=>exact bu.aU q.2.1 q'.2.2|_=>trivial) (aj q.2.2 q'.2.2)|_=>exact .of q'.1 q'.2.1 (aj q.2.2 q'.2.2)
theorem Gr.nZ{t:St->az×St}{f:St->aD (Sg×St)}(ht:∀s,bX c s->bX c (t s).2/\s.n<=(t s).2.n)(hf:∀s,bX c s->Gr c s.n (f s)):∀m s,bX c s->Gr c s.n (ja t f m s)
 |0,_,_=>.none|m+1,s,g=>have k:=ht s g;aO (Gr c s.n) (λ_=>((hf _ k.1).on<|Gr.nZ ht hf m).le k.2) λ_=>.nx k.1 k.2
theorem Gr.for{f:St->aD (Sg×St)}(hf:∀s,bX c s->Gr c s.n (f s)):∀xs s,(∀x∈xs,dr s.n x)->bX c s->Gr c s.n (mF f xs s)
 |[],_,_,g=>.nx g (aF _)|x::xs,s,hx,g=>by
  have r:=hf _ (g.bI (x:=ew) .c (hx x<|gZ ..).ok)
  show Gr c s.n (gN (f<|s.bI ew x)<|mF f xs)
  cases e:f (s.bI ew x) with
  |none=>exact .none|some p=>
   cases p with|mk g' s'=>
   have q:=r g' s' e
   have nx:=(Gr.for hf xs s' (λy hy=>(hx y<|iE _ hy).aU q.2.2) q.1).le q.2.2
   cases g' with
   |nx=>exact nx|ct=>exact nx|bk=>exact .nx q.1 q.2.2|rt v=>exact .of q.1 q.2.1 q.2.2
theorem GK{n:ai}{v:V}(h:bu n v):(t9 v).length<=4/\∀d∈t9 v,dr n d:=by
 cases v with
 |tuple xs=>exact h|_=>exact⟨bQ _,λ_ hd=>nomatch hd⟩
theorem EO{h:ai}{e:E}{s:St}(o:aL c h e)(g:bX c s):bX c (ej e s).2/\s.n<=(ej e s).2.n:=by
 have P:=λ{p:Prop} [Decidable p] {a b:ai×St}=>aO (λq:ai×St=>bX c q.2/\s.n<=q.2.n) (p:=p) (a:=a) (b:=b)
 refine P (λhv=>?_) λ_=>have k:=cX o s g;⟨k.g,k.n⟩
 have g1:=g.rd (m4 o hv)
 have g2:=g1.rd (m4 o hv)
 have n2:=aj (gm s<|d5 e) (gm _ (d5 e))
 exact P (λ_=>⟨g1,gm s _⟩) λ_=>P (λ_=>⟨g2,n2⟩) λ_=>⟨g2,n2⟩
theorem zJ{h:ai}{e:E}{s:St}(o:aL c h e)(g:bX c s):bX c (lS e s)/\s.n<=(lS e s).n:=
 have k:=cX o s g
 ⟨k.g.gj (zF Ny<|.inl (m6 k.v)),j2 k.n⟩
theorem sW{h:ai}{e:E}(o:aL c h e)(s:St)(g:bX c s):bX c (fB e s).2/\s.n<=(fB e s).2.n:=have k:=cX o s g;⟨k.g,k.n⟩
def GB(c:az)(b:af S):Prop:=∀s,bX c s->Gr c s.n (run b s)
theorem iw{h:ai}{b:af S}(o:bR c h b):GB c b:=by
 refine bR.rec (motive_1:=λ_ x _=>∀s,bX c s->Gr c s.n (g6 x s)) (motive_2:=λ_ b _=>GB c b) ?_ ?_ ?_ ?_ ?_ ?_ ?_ ?_ ?_ ?_ ?_ ?_ ?_ ?_ ?_ ?_ o
 ·exactλo s g=>have k:=cX o s g;.of (aO (bX c) (λ_=>g) λ_=>k.g) trivial (aO (λt:St=>s.n<=t.n) (λ_=>aF _) λ_=>k.n)
 ·exactλo s g=>have k:=zJ o g;.nx k.1 k.2
 ·exactλo o' s g=>have k:=zJ o g;have k':=zJ o' k.1;.nx k'.1 (aj k.2 k'.2)
 ·intro _ k s g;cases k<;>exact .of g trivial (aF _)
 ·exactλs g=>.of g trivial (aF _)
 ·exactλo s g=>have k:=cX o s g;.of k.g k.v k.n
 ·exactλ_ ih=>ih
 ·exactλo _ _ _ ib io s g=>have k:=sW o s g;aO (Gr c s.n) (λ_=>(ib _ k.1).le k.2) λ_=>(io _ k.1).le k.2
 ·exactλo _ o' _ _ _ ib cV io s g=>have k:=sW o s g;have k':=sW o' _ k.1;have n:=aj k.2 k'.2;aO (Gr c s.n) (λ_=>(ib _ k.1).le k.2) λ_=>aO (Gr c s.n) (λ_=>(cV _ k'.1).le n) λ_=>(io _ k'.1).le n
 ·exactλo _ ib s g=>Gr.nZ (sW o) ib yI s g
 ·exactλo _ ib s g=>(ib s g).on (Gr.nZ (sW o) ib 3)
 ·exactλo _ ib s g=>have k:=cX o s g;(Gr.for ib _ _ (GK k.v).2 k.g).le k.n
 ·exactλo _ _ ix iy s g=>have k:=EO o g;(aO (Gr c s.n) (λ_=>((ix _ k.1).seq iy).le k.2) λ_=>aO (Gr c s.n) (λ_=>(iy _ k.1).le k.2) λ_=>.nx k.1 k.2).sw
 ·exactλ_ _ ib jf s g=>(ib s g).tr jf
 ·exactλs g=>.nx g (aF _)
 ·exactλ_ _ _ i1 ir s g=>(i1 s g).seq ir
end
theorem Mb{v:V}(h:oj v):ao 1 54 [] [v] (.val<|iB v) []:=by
 cases v<;>first|exact h.elim|exact ao.go [] λk _ z=>z
theorem Iw{a b:aq}(h:a.length+b.length<=100000):ky .add (.str a) (.str b)=ab (.val<|.str (a++b)):=a9 h
theorem XF{n:ai}(hn:n<=100000)(o:O){x y:V}(hx:bu n x)(hy:bu n y):ao 2 50 [] [.str o.i7,x,y] (.val<|fP o x y) []:=by
 have h1:=we hx.mn
 have h2:=we hy.mn
 have h3:=wd hx.mn
 have h4:=wd hy.mn
 have hl:(cY x).length+(cY y).length<=100000:=aj (cQ (m6 hx).1 (m6 hy).1) aa
 have h5:=wd (v:=.str<|cY x++cY y) (show(cY x++cY y).length<=100000 by rw[R6];exact hl)
 cases o with
 |add=>exact ao.go [.call (.val<|.int (dg x)) [],.call (.val<|.int (dg y)) []] λk hk z=>an (h1 k hk) (an (h2 k hk) z)|lt=>exact ao.go [.call (.val<|.int (dg x)) [],.call (.val<|.int (dg y)) []] λk hk z=>an (h1 k hk) (an (h2 k hk) z)|lq=>exact ao.go [.call (.val<|.str (cY x)) [],.call (.val<|.str (cY y)) [],.bq 0 (.val<|.str (cY x++cY y)),.call (.val<|.str (kO<|cY x++cY y)) []] λk hk z=>an (h3 k hk) (an (h4 k hk)<|an (Iw hl) (an (h5 k hk) z))|xf=>exact ao.go [.bi 0 (.val<|.str x.shown),.bi 0 (.val<|.str y.shown),.au 0<|dM x.shown y.shown] λk hk z=>an (tv<|hx.nP hn) (an (tv<|hy.nP hn)<|an (iC x.shown y.shown []) z)
theorem Ru{vs:af (aq×V)}{l:af V}{t sd:aH}{d:V}(h:l.length<100000):iQ .append (.bM 0) [.val d] [.st vs l t sd]=ab (.val .none,[.st vs (l++[d]) t sd]):=
 ay (gv _) (show mN (.bM 0) [d] [.st vs l t sd]=ab [.st vs (l++[d]) t sd] from a9 h)
theorem XC{s:St}{x:aq}(h:s.bM.length<100000):ao 1 51 [s.root] [.str x] (.val<|s.get x) [(s.rd x).root]:=by
 obtain⟨vars,bM,cW,b8,n⟩:=s
 have hl:=Ru (vs:=vars) (t:=cW) (sd:=b8) (d:=.tuple [.str tC,.str x]) h
 simp only [St.rd]
 cases q:vars.any (λp=>p.1==x) with
 |true=>exact ao.go [.au 0 ag] λk hk z=>an (show cv .lJ (.val<|.str x) (.vars 0) [.st vars bM cW b8]=ab ag from ay (λb=>ab<|!b) q) z|false=>exact ao.go [.au 0 ae,.bw 0 (.val .none) [.st vars (bM++[.tuple [.str tC,.str x]]) cW b8]] λk hk z=>an (show cv .lJ (.val<|.str x) (.vars 0) [.st vars bM cW b8]=ab ae from ay (λb=>ab<|!b) q) (an hl z)
theorem ab8{xs:af V}{k:aH}{x:V}{rs:Rs}(h0:0<=k)(h1:k<xs.length)(hz:xs.length<=100000)(e:xs[k.toNat]?=ab x):e9 (.own<|.ah xs) (.int k) rs=ab (.val x):=by
 show gv MV.val ((lI k xs.length).bind λj=>xs[j]?)=_
 rw[BL h0 h1 hz];exact ay (gv MV.val) e
theorem Cq{xs:af V}{k:aH}{x:V}{rs:Rs}(h0:0<=k)(h1:k<xs.length)(hz:xs.length<=100000)(e:xs[k.toNat]?=ab x):e9 (.val<|.tuple xs) (.int k) rs=ab (.val x):=ab8 (rs:=rs) h0 h1 hz e
theorem acT{xs:af V}{j:ai}(h:j<xs.length):xs[j]?=ab ((xs[j]?).getD .none):=(Ti h)▸rfl
theorem OV{xs:af V}{i:aH}{rs:Rs}(h:0<xs.length)(hz:xs.length<=100000):e9 (.val<|.tuple xs) (.int<|i%(xs.length:aH)) rs=ab (.val<|(xs[(i%(xs.length:aH)).toNat]?).getD .none):=
 have hp:(0:aH)<(xs.length:aH):=Ts.mpr h
 have h0:=AG i (AD hp)
 have d6:=DW i hp
 Cq h0 d6 hz (acT<|(Tp h0).mpr d6)
theorem XW{s:St}{d:V}(h:s.bM.length<100000):ao 1 53 [s.root] [d] (.val (s.lV d).1) [(s.lV d).2.root]:=by
 obtain⟨vars,bM,cW,b8,n⟩:=s
 have ha:=Ru (vs:=vars) (t:=cW) (sd:=b8) (d:=d) h
 have hi:=OV (xs:=C3) (i:=b8+(cW+1)) (rs:=[]) aa aa
 exact ao.go [.bw 0 (.val .none) [.st vars (bM++[d]) cW b8],.aK 3<|.val (Ir<|b8+(cW+1))] λk _ z=>an ha (an hi z)
theorem P9(xs:af V):SG xs []=xs.isEmpty:=by cases xs<;>rfl
theorem Nl(xs:af V)(rs:Rs):cv .ne (.val<|.tuple xs) (.val<|.tuple []) rs=ab (!xs.isEmpty):=by
 show(ny (.tuple xs)<|.tuple []).map (!·)=_
 rw[xg<|aj (u3 _ _) (show jC (.tuple [])<=100 by simp[jC,mT])]
 exact ay (λb=>ab<|!b) (P9 xs)
theorem aav{a b:aH}(h:0<b):ky .jR (.int a) (.int b)=ab (.val<|.int (a%b)):=a9 h
theorem XR{v a:V}(hv:oj v)(ha:oj a):ao 2 55 [] [v,a] (.val<|dD v a) []:=by
 have h1:=we ha
 cases v with
 |tuple xs=>
  cases xs with
  |nil=>exact ao.go [.au 0 ag] λk hk z=>an (Nl [] []) z|cons x xs=>
   have hp:(0:aH)<((x::xs).length:aH):=Ts.mpr (sN _)
   exact ao.go [.au 0 ae,.call (.val<|.int (dg a)) [],.bi 0 (.val<|.int (x::xs).length),.bq 0 (.val<|.int (dg a%((x::xs).length:aH))),.aK 0<|.val (dD (.tuple<|x::xs) a)] λk hk z=>an (Nl (x::xs) []) (an (h1 k hk)<|an (B8 hv) (an (aav (a:=dg a) hp)<|an (OV (xs:=x::xs) (i:=dg a) (rs:=[]) (sN _) hv) z))
 |list _=>exact hv.elim|dict _=>exact hv.elim|_=>exact ao.go [] λk _ z=>z
theorem pK{xs:af V}(h:xs.length<=100000):gY .tuple (.list xs)=ab (.val<|.tuple xs):=a9 h
theorem Gh{xs:af V}(h:xs.length<=100000):gY .list (.tuple xs)=ab (.own<|.ah xs):=a9 h
theorem EZ{r:bP}{xs:af V}{k:aH}{d:V}(h0:0<=k)(h1:k<xs.length)(hz:xs.length<=100000):rC (.ref 1) (.int k) d [r,.ah xs]=ab [r,.ah<|xs.set k.toNat d]:=by
 show(if 0<=k then(lI k xs.length).map λp=>[r,.ah<|xs.set p d] else aw)=_
 rw[a9 h0,BL h0 h1 hz];rfl
theorem Wq{vs:af (aq×V)}{l:af V}{t sd:aH}{x:aq}{d:V}{rs:Rs}(h:vs.length<=100000):rC (.vars 0) (.str x) d (.st vs l t sd::rs)=ab (.st (i8 vs x d) l t sd::rs):=a9 h
theorem Qb(i j:aH)(rs:Rs):cv .eq (.val<|.int i) (.val<|.int j) rs=ab (decide (i=j)):=by
 show ny (.int i) (.int j)=_
 rw[xg<|by simp[jC]];rfl
def wD(vars:af (aq×V))(bM:af V)(cW b8:aH)(a v:V)(ys:af V):Os:=
 [.call (.val<|iB v) [],.call (.val<|.int (dg a)) [],.set 0 [.st vars bM cW b8,.ah<|ys.set (dg a%3).toNat (iB v)],.bi 0 (.val<|.tuple (ys.set (dg a%3).toNat<|iB v)),.set 0 [.st (i8 vars bz<|.tuple (ys.set (dg a%3).toNat<|iB v)) bM cW b8,.ah<|ys.set (dg a%3).toNat (iB v)]]
theorem XD{s:St}{a v:V}(ha:oj a)(hv:oj v)(hd:oj (s.get bz))(hl:s.vars.length<=100000):ao 2 56 [s.root] [a,v] (.val v) [(s.eH a v).root]:=by
 have h1:=we ha
 have h2:=Mb hv
 obtain⟨vars,bM,cW,b8,n⟩:=s
 have h0:0<=dg a%3:=AG _ aa
 have d6:dg a%3<3:=DW _ aa
 have hd:oj ((vars.lookup bz).getD .none):=hd
 have get:∀w,(vars.lookup bz).getD .none=w->iQ .nr (.vars 0) [.val (.str bz),.val .none] [.st vars bM cW b8]=ab (.val w,[.st vars bM cW b8]):=λw e=>e▸rfl
 have tail:=λ(ys:af V)(h:ys.length=3)(k:ai)(hk:1<=k){Z:Prop}(z:Z)=>
  have b:ys.length<=100000:=h▸aa
  an (h2 k hk) (an (h1 k hk)<|an (EZ (r:=.st vars bM cW b8) (d:=iB v) h0 (h▸d6) b) (an (pK (xs:=ys.set (dg a%3).toNat<|iB v)<|pC.symm▸b)<|an (Wq (l:=bM) (t:=cW) (sd:=b8) (x:=bz) (d:=.tuple<|ys.set (dg a%3).toNat (iB v)) (rs:=[.ah<|ys.set (dg a%3).toNat (iB v)]) hl) z))
 show ao 2 56 _ _ _ [bP.st (i8 vars bz<|.tuple ((cells<|(vars.lookup bz).getD .none).set (dg a%3).toNat<|iB v)) bM cW b8]
 generalize hw:(vars.lookup bz).getD .none=w at hd ⊢
 cases w with
 |tuple xs=>
  by_cases h3:xs.length=3
  ·rw[show cells (.tuple xs)=xs from a9 h3]
   exact ao.go (.bw 0 (.val<|.tuple xs) [.st vars bM cW b8]::.bi 1 (.val<|.int xs.length)::.au 0 ae::.bi 0 (.own<|.ah xs)::wD vars bM cW b8 a v xs) λk hk q=>an (get _ hw) (an (B8 hd)<|an ((Qb xs.length 3 [.st vars bM cW b8]).trans (ay ab<|gQ (ay Int.ofNat h3))) (an (Gh hd)<|tail xs h3 k hk q))
  ·rw[show cells (.tuple xs)=[.none,.none,.none] from br h3]
   exact ao.go (.bw 0 (.val<|.tuple xs) [.st vars bM cW b8]::.bi 1 (.val<|.int xs.length)::.au 0 ag::wD vars bM cW b8 a v [.none,.none,.none]) λk hk q=>an (get _ hw) (an (B8 hd)<|an ((Qb xs.length 3 [.st vars bM cW b8]).trans (ay ab<|uR λq=>h3 (akX q))) (tail [.none,.none,.none] rfl k hk q))
 |list _=>exact hd.elim|dict _=>exact hd.elim|none=>exact ao.go (.bw 0 (.val .none) [.st vars bM cW b8]::wD vars bM cW b8 a v [.none,.none,.none]) λk hk q=>an (get _ hw) (tail [.none,.none,.none] rfl k hk q)|bool b=>exact ao.go (.bw 0 (.val<|.bool b) [.st vars bM cW b8]::wD vars bM cW b8 a v [.none,.none,.none]) λk hk q=>an (get _ hw) (tail [.none,.none,.none] rfl k hk q)|int b=>exact ao.go (.bw 0 (.val<|.int b) [.st vars bM cW b8]::wD vars bM cW b8 a v [.none,.none,.none]) λk hk q=>an (get _ hw) (tail [.none,.none,.none] rfl k hk q)|str b=>exact ao.go (.bw 0 (.val<|.str b) [.st vars bM cW b8]::wD vars bM cW b8 a v [.none,.none,.none]) λk hk q=>an (get _ hw) (tail [.none,.none,.none] rfl k hk q)
theorem Ng:∀{l m:af aq},l.Nodup->(∀x∈l,x∈m)->l.length<=m.length:=by
 intro l
 induction l with
 |nil=>exactλ_ _=>bQ _|cons x l ih=>
  intro m h s
  have hx:=s x (gZ ..)
  have h1:=j3.mp h
  have h2:=ih (m:=m.erase x) h1.2 λy hy=>(List.mem_erase_of_ne λq:y=x=>h1.1<|q▸hy).mpr (s y<|iE _ hy)
  rw[List.length_erase_of_mem hx] at h2
  exact aj (bG h2) (bA<|Jh (List.length_pos_of_mem hx))
def C4:af aq:=(gX++(jE 20).map cP)++(jE 12001).map aG
theorem Nm.all{c:az}{x:aq}(h:Nm c x):x∈C4:=
 h.elim (λh=>pB _ (pB _ h)) λh=>h.elim (λ⟨k,h1,h2⟩=>pB _ (u6 _ (eE.mpr ⟨k,DP.mpr h1,h2.symm⟩))) λ⟨_,k,h1,h2⟩=>u6 _ (eE.mpr ⟨k,DP.mpr (SZ h1),h2.symm⟩)
theorem ahk:C4.length=12026:=by simp only [C4,eX,iF,Td,gX,Jq,DR]
structure b6(c:az)(s:St):Prop where
 g:bX c s
 n:s.n<=90000
section
variable{c:az}{s:St}
theorem b6.bM(f:b6 c s):s.bM.length<100000:=lB (aj f.g.bM f.n) aa
theorem b6.vars(f:b6 c s):s.vars.length<=100000:=by
 have h:=Ng (m:=C4) f.g.nd λx hx=>by
  obtain⟨p,hp,e⟩:=eE.mp hx
  exact e▸(f.g.iP p hp).all
 rw[iF,ahk] at h
 exact aj h aa
theorem b6.le{v:V}(h:bu s.n v)(f:b6 c s):bu 90000 v:=h.aU f.n
end
section
variable{k n:ai}{v w:V}{c:az}{s:St}
theorem cx(h:n+4<=k):4<=k:=aj (bY 4 n) h
theorem Ci(h:bu n v)(hk:4<=k):b5 a8 k 47 [] [v] (.val<|.int (dg v)) []:=we h.mn k (aj aa hk)
theorem t7(h:bu n v)(hk:4<=k):b5 a8 k 48 [] [v] (.val<|.str (cY v)) []:=wd h.mn k (aj aa hk)
theorem zi(h:bu n v)(hk:4<=k):b5 a8 k 49 [] [v] (.val<|.bool (bF v)) []:=Xv h.mn k (aj aa hk)
theorem zh(o:O)(h:bu 90000 v)(h':bu 90000 w)(hk:4<=k):b5 a8 k 50 [] [.str o.i7,v,w] (.val<|fP o v w) []:=XF aa o h h' k (aj aa hk)
theorem lM(x:aq)(f:b6 c s)(hk:4<=k):b5 a8 k 51 [s.root] [.str x] (.val<|s.get x) [(s.rd x).root]:=XC f.bM k (aj aa hk)
theorem Cg(d:V)(f:b6 c s)(hk:4<=k):b5 a8 k 53 [s.root] [d] (.val (s.lV d).1) [(s.lV d).2.root]:=XW f.bM k (aj aa hk)
theorem k54(h:bu n v)(hk:4<=k):b5 a8 k 54 [] [v] (.val<|iB v) []:=Mb h.mn k (aj aa hk)
theorem t6(h:bu n v)(h':bu n w)(hk:4<=k):b5 a8 k 55 [] [v,w] (.val<|dD v w) []:=XR h.mn h'.mn k (aj aa hk)
theorem Cf(h:bu n v)(h':bu n w)(f:b6 c s)(hk:4<=k):b5 a8 k 56 [s.root] [v,w] (.val w) [(s.eH v w).root]:=XD h.mn h'.mn (f.g.get bz).mn f.vars k (aj aa hk)
theorem eg(h:bu 90000 v):gY .repr v=ab (.val<|.str v.shown):=tv (h.nP aa)
theorem abY(v:V)(rs:Rs):cv .is (.val v) (.val .none) rs=ab (dS v):=by cases v<;>rfl
theorem rN{b:az}(h:dS v=b)(rs:Rs):cv .is (.val v) (.val .none) rs=ab b:=h▸abY v rs
theorem tQ(h:dS v=ae)(rs:Rs):cv .kh (.val v) (.val .none) rs=ab ag:=ay (gv (!·)) (rN h rs)
theorem rO(h:dS v=ag)(rs:Rs):cv .kh (.val v) (.val .none) rs=ab ae:=ay (gv (!·)) (rN h rs)
theorem vW(f:s.bM.length<100000)(d:V)(rs:Rs):iQ .append (.bM 0) [.val d] (s.root::rs)=ab (.val .none,(s.gj d).root::rs):=
 ay (gv _) (show mN (.bM 0) [d] (s.root::rs)=ab ((s.gj d).root::rs) from a9 f)
theorem N8(f:s.bM.length<100000)(d:V):gY .len (.list (s.gj d).bM)=ab (.val<|.int (s.bM.length+1:ai)):=
 have e:(s.bM++[d]).length=s.bM.length+1:=eX
 (y7 (xs:=s.bM++[d])<|e▸f).trans (ay (λn:ai=>ab<|MV.val (.int n)) e)
theorem tM(h:s.vars.length<=100000)(x:aq)(d:V)(rs:Rs):rC (.vars 0) (.str x) d (s.root::rs)=ab ((s.bI x d).root::rs):=a9 h
end
section
def hd:V->aq
 | .tuple (.str h::_)=>h|_=>pU
noncomputable def kQ:E->az
 | .lit _=>ae|_=>ag
end
structure Nd(v:V)(e:E):Prop where
 sh:∃tl,v=.tuple (.str (hd v)::tl)/\tl.length<=5
 nm:dM (hd v) pU=ag
 va:dM (hd v) pT=cu e
 di:dM (hd v) kc=lN e
 li:dM (hd v) tI=kQ e
theorem Nd.yX{h:aq}{tl:af V}{e:E}(h1:kD tl.length 5=ae)(h2:dM h pU=ag)(h3:dM h pT=cu e)(h4:dM h kc=lN e)(h5:dM h tI=kQ e):Nd (.tuple<|.str h::tl) e:=⟨⟨tl,rfl,bJ h1⟩,h2,h3,h4,h5⟩
theorem nd(e:E):Nd (ak e) e:=by
 cases e with
 |un u e=>cases u<;>exact Nd.yX rfl rfl rfl rfl rfl|bi w a b=>cases w<;>exact Nd.yX rfl rfl rfl rfl rfl|la l a b=>cases l<;>exact Nd.yX rfl rfl rfl rfl rfl|cN o a b=>cases o<;>exact Nd.yX rfl rfl rfl rfl rfl|_=>exact Nd.yX rfl rfl rfl rfl rfl
theorem nk{h:aq}{tl:af V}(h1:tl.length<=5)(rs:Rs):e9 (.val<|.tuple (.str h::tl)) (.int 0) rs=ab (.val<|.str h):=
 Cq aa (oA.mpr<|sN _) (aj (bG h1) aa) rfl
theorem i0(e:E)(rs:Rs):e9 (.val<|ak e) (.int 0) rs=ab (.val<|.str (hd<|ak e)):=by
 obtain⟨tl,h,h1⟩:=(nd e).sh
 generalize hd (ak e)=q at h ⊢
 rw[h];exact nk h1 rs
theorem iv{e:E}{b:az}(h:cu e=b)(rs:Rs):cv .eq (.val<|.str (hd<|ak e)) (.val<|.str pT) rs=ab b:=(iC _ _ rs).trans (ay ab<|(nd e).va.trans h)
theorem en(e:E)(rs:Rs):cv .is (.val<|ak e) (.val .none) rs=ab ag:=by
 obtain⟨tl,h,_⟩:=(nd e).sh
 rw[h];rfl
def Ev(N:ai)(s:St)(e:E)(v:V)(t:St):Prop:=ao N 57 [s.root] [ak e] (.val v) [t.root]
theorem ao.s1{n f:ai}{own cE:Rs}{ds:af V}{m:MV}(h:ao n f own ds m cE):ao (n+1) f own ds m cE:=h.aU (aR n)
section
variable{n:ai}{c:az}{a b e:E}{x y z v w:V}{s aA aS i5 t:St}
theorem kY{h:aq}{tl:af V}(hh:h=kc\/h=oO\/h=pW\/h=rI\/h=tD\/h=tH\/h=mu\/h=oM)(hl:tl.length<=5)(H:ao n 58 [s.root] [.tuple<|.str h::tl] (.val v) [t.root]):ao (n+1) 57 [s.root] [.tuple<|.str h::tl] (.val v) [t.root]:=by
 rcases hh with rfl|rfl|rfl|rfl|rfl|rfl|rfl|rfl
 ·exact ao.go [.aK 0 (.val<|.str kc),.call (.val v) [t.root]] λk hk z=>an (nk (h:=kc) hl [s.root]) (an (H k hk) z)
 ·exact ao.go [.aK 0 (.val<|.str oO),.call (.val v) [t.root]] λk hk z=>an (nk (h:=oO) hl [s.root]) (an (H k hk) z)
 ·exact ao.go [.aK 0 (.val<|.str pW),.call (.val v) [t.root]] λk hk z=>an (nk (h:=pW) hl [s.root]) (an (H k hk) z)
 ·exact ao.go [.aK 0 (.val<|.str rI),.call (.val v) [t.root]] λk hk z=>an (nk (h:=rI) hl [s.root]) (an (H k hk) z)
 ·exact ao.go [.aK 0 (.val<|.str tD),.call (.val v) [t.root]] λk hk z=>an (nk (h:=tD) hl [s.root]) (an (H k hk) z)
 ·exact ao.go [.aK 0 (.val<|.str tH),.call (.val v) [t.root]] λk hk z=>an (nk (h:=tH) hl [s.root]) (an (H k hk) z)
 ·exact ao.go [.aK 0 (.val<|.str mu),.call (.val v) [t.root]] λk hk z=>an (nk (h:=mu) hl [s.root]) (an (H k hk) z)
 ·exact ao.go [.aK 0 (.val<|.str oM),.call (.val v) [t.root]] λk hk z=>an (nk (h:=oM) hl [s.root]) (an (H k hk) z)
theorem qG{h:aq}{tl:af V}(hh:h=nV\/h=jO\/h=pV)(hl:tl.length<=5)(H:ao n 59 [s.root] [.tuple<|.str h::tl] (.val v) [t.root]):ao (n+1) 57 [s.root] [.tuple<|.str h::tl] (.val v) [t.root]:=by
 rcases hh with rfl|rfl|rfl
 ·exact ao.go [.aK 0 (.val<|.str nV),.call (.val v) [t.root]] λk hk z=>an (nk (h:=nV) hl [s.root]) (an (H k hk) z)
 ·exact ao.go [.aK 0 (.val<|.str jO),.call (.val v) [t.root]] λk hk z=>an (nk (h:=jO) hl [s.root]) (an (H k hk) z)
 ·exact ao.go [.aK 0 (.val<|.str pV),.call (.val v) [t.root]] λk hk z=>an (nk (h:=pV) hl [s.root]) (an (H k hk) z)
theorem P0{d:V}:Ev 1 s (.lit d) d s:=ao.go [] λk _ z=>z
theorem adG{q:aq}(f:b6 c s):Ev 5 s (.var q) (s.get q) (s.rd q):=ao.go (n:=4) [.call (.val<|s.get q) [(s.rd q).root]] λk hk z=>an (lM q f hk) z
theorem adF(f:b6 c s):Ev 5 s .y0 (ev .y0 s).1 (ev .y0 s).2:=ao.go (n:=4) [.call (.val (ev .y0 s).1) [(ev .y0 s).2.root]] λk hk z=>an (Cg (.tuple [.str fC,.none,.none]) f hk) z
theorem adV{p:az}{q:aq}(f:b6 c s)(f':b6 c (s.rd q)):Ev 6 s (.dW p q) (ev (.dW p q) s).1 (ev (.dW p q) s).2:=by
 have g:=f.g.get q
 have u:=tM f'.vars q (.int<|dg (s.get q)+1) []
 refine qG (.inr<|.inr rfl) (bJ rfl) ?_
 cases p with
 |true=>exact ao.go (n:=4) [.call (.val<|s.get q) [(s.rd q).root],.call (.val<|.int (dg<|s.get q)) [],.set 0 [((s.rd q).bI q<|.int (dg (s.get q)+1)).root],.call (.val<|.int (dg<|s.get q)) []] λk hk z=>an (lM q f hk) (an (Ci g hk)<|an u (an (Ci g hk) z))|false=>exact ao.go (n:=4) [.call (.val<|s.get q) [(s.rd q).root],.call (.val<|.int (dg<|s.get q)) [],.set 0 [((s.rd q).bI q<|.int (dg (s.get q)+1)).root]] λk hk z=>an (lM q f hk) (an (Ci g hk)<|an u z)
theorem adE(f:b6 c aA)(h:Ev (n+4) s e v aA):Ev (n+5) s (.un .y1 e) (eO .y1 v aA).1 (eO .y1 v aA).2:=
 ao.go [.au 8 ag,.call (.val v) [aA.root],.call (.val (eO .y1 v aA).1) [(eO .y1 v aA).2.root]] λk hk z=>an (en e [s.root]) (an (h k hk)<|an (Cg (.tuple [.str fC,.none,v]) f<|cx hk) z)
theorem adC(f:b6 c aA)(h:Ev (n+4) s e v aA):Ev (n+5) s (.un .yf e) (eO .yf v aA).1 (eO .yf v aA).2:=
 ao.go [.call (.val v) [aA.root],.call (.val (eO .yf v aA).1) [(eO .yf v aA).2.root]] λk hk z=>an (h k hk) (an (Cg (.tuple [.str BI,v]) f<|cx hk) z)
theorem ad8(f:b6 c aA)(h:Ev (n+4) s e v aA):Ev (n+6) s (.un .call e) (eO .call v aA).1 (eO .call v aA).2:=
 kY (.inr<|.inr (.inl rfl)) (bJ rfl) (ao.go [.call (.val v) [aA.root],.bw 1 (.val .none) [(aA.gj<|.tuple [.str j8,v]).root,.ah [.str j8,v]],.bi 0<|.val (.int (aA.bM.length+1:ai))] λk hk z=>an (h k hk)<|an (vW f.bM (.tuple [.str j8,v]) [.ah [.str j8,v]]) (an (N8 f.bM<|.tuple [.str j8,v]) z))
theorem adL(hv:bu aA.n v)(h:Ev (n+4) s e v aA):Ev (n+6) s (.un .nt e) (eO .nt v aA).1 (eO .nt v aA).2:=
 kY (.inr<|.inr (.inr<|.inr (.inr<|.inr (.inr rfl)))) (bJ rfl) (ao.go [.call (.val v) [aA.root],.call (.val<|.bool (bF v)) []] λk hk z=>an (h k hk)<|an (zi hv<|cx hk) z)
theorem adM(hv:bu aA.n v)(h:Ev (n+4) s e v aA):Ev (n+6) s (.un .neg e) (eO .neg v aA).1 (eO .neg v aA).2:=
 kY (.inr<|.inr (.inr<|.inr (.inr<|.inr (.inr rfl)))) (bJ rfl) (ao.go [.call (.val v) [aA.root],.call (.val<|.int (dg v)) []] λk hk z=>an (h k hk)<|an (Ci hv<|cx hk) z)
theorem adI(f:b6 c aA)(hv:bu aA.n v)(h:Ev (n+4) s e v aA):Ev (n+6) s (.un .jP e) (eO .jP v aA).1 (eO .jP v aA).2:=
 kY (.inr<|.inr (.inr<|.inr (.inr<|.inl rfl))) (bJ rfl) (ao.go [.call (.val v) [aA.root],.call (.val<|.str (cY v)) [],.bw 0 (.val .none) [(eO .jP v aA).2.root]] λk hk z=>an (h k hk)<|an (t7 hv<|cx hk) (an (vW f.bM (.tuple [.str iz,.str<|cY v]) []) z))
theorem ad6(hv:bu aA.n v)(h:Ev (n+4) s e v aA):Ev (n+6) s (.un .fF e) (eO .fF v aA).1 (eO .fF v aA).2:=
 kY (.inr<|.inr (.inr<|.inr (.inr<|.inr (.inl rfl)))) (bJ rfl) (ao.go [.call (.val v) [aA.root],.call (.val<|.bool (bF v)) []] λk hk z=>an (h k hk)<|an (zi hv<|cx hk) z)
theorem ad5(hv:bu aA.n v)(h:Ev (n+4) s e v aA):Ev (n+6) s (.un .iS e) (eO .iS v aA).1 (eO .iS v aA).2:=
 kY (.inr<|.inr (.inr<|.inr (.inr<|.inr (.inl rfl)))) (bJ rfl) (ao.go [.call (.val v) [aA.root],.call (.val<|.str (cY v)) []] λk hk z=>an (h k hk)<|an (t7 hv<|cx hk) z)
theorem aeb{q:aq}(f:b6 c aA)(h:Ev (n+4) s e v aA):Ev (n+6) s (.un (.aN q) e) (eO (.aN q) v aA).1 (eO (.aN q) v aA).2:=
 qG (.inl rfl) (bJ rfl) (ao.go [.call (.val v) [aA.root],.set 0 [(aA.bI q v).root]] λk hk z=>an (h k hk)<|an (tM f.vars q v []) z)
theorem adK{p:az}{q:aq}(f:b6 c aA)(f':b6 c (aA.rd q))(hv:bu aA.n v)(h:Ev (n+4) s e v aA):Ev (n+6) s (.un (.op p q) e) (eO (.op p q) v aA).1 (eO (.op p q) v aA).2:=by
 refine qG (.inr<|.inl rfl) (bJ rfl) ?_
 have g:=b6.le (f.g.get q) f
 have hv:=b6.le hv f
 cases p with
 |true=>exact ao.go [.call (.val v) [aA.root],.call (.val<|aA.get q) [(aA.rd q).root],.call (.val<|fP .add (aA.get q) v) [],.set 0 [((aA.rd q).bI q<|fP .add (aA.get q) v).root]] λk hk z=>an (h k hk) (an (lM q f<|cx hk)<|an (zh .add g hv<|cx hk) (an (tM f'.vars q (fP .add (aA.get q) v) []) z))|false=>exact ao.go [.call (.val v) [aA.root],.call (.val<|aA.get q) [(aA.rd q).root],.call (.val<|fP .lq (aA.get q) v) [],.set 0 [((aA.rd q).bI q<|fP .lq (aA.get q) v).root]] λk hk z=>an (h k hk) (an (lM q f<|cx hk)<|an (zh .lq g hv<|cx hk) (an (tM f'.vars q (fP .lq (aA.get q) v) []) z))
theorem adD(f:b6 c aS)(h:Ev (n+4) s a x aA)(h':Ev (n+4) aA b y aS):Ev (n+5) s (.bi .y2 a b) (fG .y2 x y aS).1 (fG .y2 x y aS).2:=
 ao.go [.au 7 ag,.call (.val x) [aA.root],.au 0 ag,.call (.val y) [aS.root],.call (.val (fG .y2 x y aS).1) [(fG .y2 x y aS).2.root]] λk hk z=>an (en a [s.root]) (an (h k hk)<|an (en b [aA.root]) (an (h' k hk)<|an (Cg (.tuple [.str fC,x,y]) f<|cx hk) z))
theorem ad7(f:b6 c aS)(h:Ev (n+4) s a x aA)(h':Ev (n+4) aA b y aS):Ev (n+6) s (.bi .call a b) (fG .call x y aS).1 (fG .call x y aS).2:=
 kY (.inr<|.inr (.inl rfl)) (bJ rfl) (ao.go [.call (.val x) [aA.root],.call (.val y) [aS.root],.bw 1 (.val .none) [(aS.gj<|.tuple [.str j8,x,y]).root,.ah [.str j8,x,y]],.bi 0<|.val (.int (aS.bM.length+1:ai))] λk hk z=>an (h k hk)<|an (h' k hk) (an (vW f.bM (.tuple [.str j8,x,y]) [.ah [.str j8,x,y]])<|an (N8 f.bM<|.tuple [.str j8,x,y]) z))
theorem aea(f:b6 c aS)(hx:bu aS.n x)(hy:bu aS.n y)(h:Ev (n+4) s a x aA)(h':Ev (n+4) aA b y aS):Ev (n+6) s (.bi .d8 a b) (fG .d8 x y aS).1 (fG .d8 x y aS).2:=
 qG (.inl rfl) (bJ rfl) (ao.go [.call (.val x) [aA.root],.call (.val y) [aS.root],.call (.val y) [(aS.eH x y).root]] λk hk z=>an (h k hk)<|an (h' k hk) (an (Cf hx hy f<|cx hk) z))
theorem adJ{p:az}(f:b6 c aS)(f':b6 c (aS.rd bz))(hx:bu aS.n x)(hy:bu aS.n y)(h:Ev (n+4) s a x aA)(h':Ev (n+4) aA b y aS):Ev (n+6) s (.bi (.fW p) a b) (fG (.fW p) x y aS).1 (fG (.fW p) x y aS).2:=by
 refine qG (.inr<|.inl rfl) (bJ rfl) ?_
 have g:=f.g.get bz
 have l:=gm aS bz
 have he:=(zH (a:=x) g).ok
 have u:=λ(o:O)(k:ai)(hk:4<=k)=>Cf (c:=c) (s:=aS.rd bz) (hx.aU l) ((BP o he hy).ok.aU l) f' hk
 cases p with
 |true=>
  exact ao.go [.call (.val x) [aA.root],.call (.val y) [aS.root],.call (.val<|aS.get bz) [(aS.rd bz).root],.call (.val<|dD (aS.get bz) x) [],.call (.val<|fP .add (dD (aS.get bz) x) y) [],.call (.val<|fP .add (dD (aS.get bz) x) y) [((aS.rd bz).eH x<|fP .add (dD (aS.get bz) x) y).root]] λk hk z=>an (h k hk) (an (h' k hk)<|an (lM bz f<|cx hk) (an (t6 g hx<|cx hk)<|an (zh .add (b6.le he f) (b6.le hy f)<|cx hk) (an (u .add k<|cx hk) z)))
 |false=>
  exact ao.go [.call (.val x) [aA.root],.call (.val y) [aS.root],.call (.val<|aS.get bz) [(aS.rd bz).root],.call (.val<|dD (aS.get bz) x) [],.call (.val<|fP .lq (dD (aS.get bz) x) y) [],.call (.val<|fP .lq (dD (aS.get bz) x) y) [((aS.rd bz).eH x<|fP .lq (dD (aS.get bz) x) y).root]] λk hk z=>an (h k hk) (an (h' k hk)<|an (lM bz f<|cx hk) (an (t6 g hx<|cx hk)<|an (zh .lq (b6.le he f) (b6.le hy f)<|cx hk) (an (u .lq k<|cx hk) z)))
end
section
noncomputable def ag4:af ST:=[.aN 10 (.call 57 [.var 0,.var 7]),.aN 5<|.bq .add (.var 5) (.ite (.cw ae [.var 9,.bi .n5<|.var 10]) (.var 10)<|.aC [.call 54 [.var 10]])]
def Im(k:ai)(x:V)(rs:Rs)(vs:Vs)(os:Os)(K:Fl->Rs->Vs->Os->Prop):Prop:=b4 (hO (.aC [6,7,8,9]) x vs) os λvs os=>dK (b5 a8 k) (dQ a8) ag4 rs vs os K
noncomputable def Cj(sp:az)(a:V):V:=.tuple [.none,a,.bool ag,.bool sp]
def sv(nd:V)(acc:af V)(v6 v7 v8 v9 v10:aD MV):Vs:=[ab (.ref 0),ab (.val nd),ab (.val<|.str oO),aw,aw,ab (.val<|.tuple acc),v6,v7,v8,v9,v10,aw,aw,aw,aw,aw,aw]
end
theorem cR{P Q:Prop}(p:P)(e:Q=P):Q:=e.mpr p
theorem sx{xs ys:af V}(h:xs.length+ys.length<=100000):ky .add (.tuple xs) (.tuple ys)=ab (.val<|.tuple (xs++ys)):=a9 h
section
variable{n:ai}{c:az}{a b e:E}{x y z v w:V}{s aA aS i5 t:St}
theorem Li{sp:az}(hv:bu n v):(∃xs,v=.tuple xs/\sp=ae/\xs.length<=4)\/(fV sp v=[iB v]/\(sp=ae->Cn v=ag)):=by
 cases v with
 |tuple xs=>
  cases sp with
  |false=>exact .inr ⟨rfl,λh=>nomatch h⟩|true=>exact .inl ⟨xs,rfl,rfl,hv.1⟩
 |list _=>exact hv.elim|dict _=>exact hv.elim|_=>exact .inr ⟨rfl,λ_=>rfl⟩
theorem yu{sp:az}(hv:bu n v):(fV sp v).length<=4:=by
 rcases Li (sp:=sp) hv with⟨xs,rfl,rfl,h⟩|⟨h,_⟩
 ·exact h
 ·rw[h];exact bJ rfl
theorem Il{k:ai}{sp:az}{nd:V}{acc:af V}{v6 v7 v8 v9 v10:aD MV}(hx:bu n x)(hk:4<=k)(ha:acc.length<=4)(h1:b5 a8 k 57 [s.root] [ak a] (.val x) [aA.root]):
  ∃o:Os,∀(os:Os)(K:Fl->Rs->Vs->Os->Prop),K .nx [aA.root] (sv nd (acc++fV sp x) (ab<|.val .none) (ab<|.val (ak a)) (ab<|.val (.bool ag)) (ab<|.val (.bool sp))<|ab (.val x)) os->Im k (Cj sp<|ak a) [s.root] (sv nd acc v6 v7 v8 v9 v10) (o++os) K:=by
 have h2:=k54 hx hk
 rcases Li (sp:=sp) hx with⟨xs,rfl,rfl,h⟩|⟨h,h'⟩
 ·exact⟨[.call (.val<|.tuple xs) [aA.root],.bq 0<|.val (.tuple<|acc++xs)],λos K z=>cR (an h1<|an (sx<|aj (cQ ha h) aa) z)<|by kernel_rfl⟩
 ·have hb:ky .add (.tuple acc) (.tuple [iB x])=ab (.val<|.tuple (acc++fV sp x)):=(sx (ys:=[iB x])<|aj (bG ha) (aa:5<=100000)).trans (ay (λl=>ab<|MV.val (.tuple<|acc++l)) h.symm)
  cases sp with
  |true=>exact⟨[.call (.val x) [aA.root],.tr 1 ag,.call (.val<|iB x) [],.bq 0<|.val (.tuple<|acc++fV ae x)],λos K z=>cR (an h1<|an (show fM (.val<|.bool (Cn x)) [aA.root]=ab ag from ay ab<|h' rfl) (an h2<|an hb z))<|by kernel_rfl⟩|false=>exact⟨[.call (.val x) [aA.root],.call (.val<|iB x) [],.bq 0<|.val (.tuple<|acc++fV ag x)],λos K z=>cR (an h1<|an h2 (an hb z))<|by kernel_rfl⟩
theorem Lw{xs:af V}(h:xs.length<=8):tj (.tuple xs) (ab<|-4) aw=ab (.val<|.tuple (ql xs)):=Ls (aj h aa)
theorem aed{sp:az}(hv:bu aA.n v)(h:Ev (n+4) s e v aA):Ev (n+6) s (.un (.bS sp) e) (eO (.bS sp) v aA).1 (eO (.bS sp) v aA).2:=by
 refine kY (.inr<|.inl rfl) (bJ rfl) ?_
 have key:∀k,n+4<=k->∃os,je (Im k) [Cj sp<|ak e] [s.root] (sv (ak<|.un (.bS sp) e) [] aw aw aw aw aw) os (λfl rs vs _=>fl=.nx/\rs=[aA.root]/\vs=sv (ak<|.un (.bS sp) e) (fV sp v) (ab<|.val .none) (ab<|.val (ak e)) (ab<|.val (.bool ag)) (ab<|.val (.bool sp)) (ab<|.val v)):=λk hk=>
  (Il hv (cx hk) (bQ _)<|h k hk).imp' (·++[]) λo q=>q [] _ ⟨rfl,rfl,rfl⟩
 exact ao.go [.lp .nx [aA.root] (sv (ak<|.un (.bS sp) e) (fV sp v) (ab<|.val .none) (ab<|.val (ak e)) (ab<|.val (.bool ag)) (ab<|.val (.bool sp))<|ab (.val v)),.dU 0<|.val (.tuple<|ql (fV sp v))] λk hk z=>an (key k hk) (an (Lw (xs:=fV sp v)<|aj (yu hv) aa) z)
theorem aec{sa sb:az}(hx:bu aA.n x)(hy:bu aS.n y)(h:Ev (n+4) s a x aA)(h':Ev (n+4) aA b y aS):Ev (n+6) s (.bi (.bS sa sb) a b) (fG (.bS sa sb) x y aS).1 (fG (.bS sa sb) x y aS).2:=by
 refine kY (.inr<|.inl rfl) (bJ rfl) ?_
 have key:∀k,n+4<=k->∃os,je (Im k) [Cj sa (ak a),Cj sb<|ak b] [s.root] (sv (ak<|.bi (.bS sa sb) a b) [] aw aw aw aw aw) os (λfl rs vs _=>fl=.nx/\rs=[aS.root]/\vs=sv (ak<|.bi (.bS sa sb) a b) (fV sa x++fV sb y) (ab<|.val .none) (ab<|.val (ak b)) (ab<|.val (.bool ag)) (ab<|.val (.bool sb)) (ab<|.val y)):=λk hk=>
  (Il hx (cx hk) (bQ _)<|h k hk).elim λo q=>(Il hy (cx hk) (yu hx)<|h' k hk).elim λo' q'=>⟨o++(o'++[]),q _ _ (q' [] _ ⟨rfl,rfl,rfl⟩)⟩
 exact ao.go [.lp .nx [aS.root] (sv (ak<|.bi (.bS sa sb) a b) (fV sa x++fV sb y) (ab<|.val .none) (ab<|.val (ak b)) (ab<|.val (.bool ag)) (ab<|.val (.bool sb))<|ab (.val y)),.dU 0<|.val (.tuple<|ql (fV sa x++fV sb y))] λk hk z=>an (key k hk) (an (Lw (xs:=fV sa x++fV sb y)<|aj (bA eX) (cQ (yu hx)<|yu hy)) z)
theorem abG{p q r:aq}(h1:p.length<=6)(h2:q.length<=6)(h3:r.length<=6)(rs:Rs):iQ .join (.val<|.str qc) [.own<|.ah [.str p,.str q,.str r]] rs=ab (.val (.str<|mS qc [p,q,r]),rs):=
 a9 ⟨aj (dP (cQ h1<|cQ h2 (dP h3 0)) 3) aa,aa⟩
theorem abF{p q r:aq}(h1:p.length<=6)(h2:q.length<=6)(h3:r.length<=6):(mS qc [p,q,r]).length<=100000:=by
 show((p++qc)++((q++qc)++r)).length<=_
 simp only [R6]
 exact aj (cQ (cQ h1<|aF _)<|cQ (cQ h2<|aF _) h3) aa
theorem adH(hx:bu aA.n x)(hy:bu aS.n y)(h:Ev (n+4) s a x aA)(h':Ev (n+4) aA b y aS):Ev (n+6) s (.bi .dY a b) (fG .dY x y aS).1 (fG .dY x y aS).2:=by
 have l1:=(m6 hx).1
 have l2:=(m6 hy).1
 have l0:(kO et).length<=6:=aa
 refine kY (.inr<|.inr (.inr<|.inr (.inl rfl))) (bJ rfl) (ao.go [.call (.val<|.str et) [s.root],.call (.val<|.str (kO et)) [],.call (.val x) [aA.root],.call (.val<|.str (cY x)) [],.call (.val y) [aS.root],.call (.val<|.str (cY y)) [],.bw 0 (.val<|.str (mS qc [kO et,cY x,cY y])) [aS.root],.call (.val<|.str (kO<|mS qc [kO et,cY x,cY y])) []] λk hk z=>an (P0 (s:=s) (d:=.str et) k<|aj aa (cx hk))<|an (wd (v:=.str et) (show et.length<=100000 by decide) k<|aj aa (cx hk)) (an (h k hk)<|an (t7 hx<|cx hk) (an (h' k hk)<|an (t7 hy<|cx hk) (an (abG l0 l1 l2 [aS.root])<|an (wd (v:=.str<|mS qc [kO et,cY x,cY y]) (abF l0 l1 l2) k<|aj aa (cx hk)) z))))
def Lt(N:ai)(s:St)(a b:E)(l:az)(x y:V)(t:St):Prop:=ao N 52 [s.root] [.tuple [ak a,ak b],.list [.bool ae,.bool l]] (.own<|.ah [x,y]) [t.root]
theorem abb{l:az}(ho:(cu a&&!(cu b&&l))=ag)(h:Ev n s a x aA)(h':Ev n aA b y aS):Lt (n+1) s a b l x y aS:=by
 generalize fE:cu a=va at ho
 generalize kR:cu b=vb at ho
 have A:=λr:St=>an (i0 a [r.root]) (iv fE [r.root])
 cases l with
 |true=>
  cases va with
  |false=>
   cases vb with
   |false=>
    exact ao.go [.aK 2 (.val<|.str (hd<|ak a)),.au 0 ag,.call (.val x) [aA.root],.aK 2 (.val<|.str (hd<|ak b)),.au 0 ag,.call (.val y) [aS.root],.aK 2 (.val<|.str (hd<|ak a)),.au 0 ag,.aK 2 (.val<|.str (hd<|ak b)),.au 0 ag] λk hk z=>an (i0 a [s.root,.ah [.none,.none]]) (an (iv fE [s.root,.ah [.none,.none]])<|an (h k hk) (an (i0 b [aA.root,.ah [x,.none]])<|an (iv kR [aA.root,.ah [x,.none]]) (an (h' k hk)<|an (i0 a [aS.root,.ah [x,y]]) (an (iv fE [aS.root,.ah [x,y]])<|an (i0 b [aS.root,.ah [x,y]]) (an (iv kR [aS.root,.ah [x,y]]) z)))))
   |true=>
    exact ao.go [.aK 2 (.val<|.str (hd<|ak a)),.au 0 ag,.call (.val x) [aA.root],.aK 2 (.val<|.str (hd<|ak b)),.au 0 ae,.aK 2 (.val<|.str (hd<|ak a)),.au 0 ag,.aK 2 (.val<|.str (hd<|ak b)),.au 0 ae,.call (.val y) [aS.root]] λk hk z=>an (i0 a [s.root,.ah [.none,.none]]) (an (iv fE [s.root,.ah [.none,.none]])<|an (h k hk) (an (i0 b [aA.root,.ah [x,.none]])<|an (iv kR [aA.root,.ah [x,.none]]) (an (i0 a [aA.root,.ah [x,.none]])<|an (iv fE [aA.root,.ah [x,.none]]) (an (i0 b [aA.root,.ah [x,.none]])<|an (iv kR [aA.root,.ah [x,.none]]) (an (h' k hk) z)))))
  |true=>
   cases vb with
   |false=>cases ho|true=>
    exact ao.go [.aK 2 (.val<|.str (hd<|ak a)),.au 0 ae,.aK 2 (.val<|.str (hd<|ak b)),.au 0 ae,.aK 2 (.val<|.str (hd<|ak a)),.au 0 ae,.call (.val x) [aA.root],.aK 2 (.val<|.str (hd<|ak b)),.au 0 ae,.call (.val y) [aS.root]] λk hk z=>an (i0 a [s.root,.ah [.none,.none]]) (an (iv fE [s.root,.ah [.none,.none]])<|an (i0 b [s.root,.ah [.none,.none]]) (an (iv kR [s.root,.ah [.none,.none]])<|an (i0 a [s.root,.ah [.none,.none]]) (an (iv fE [s.root,.ah [.none,.none]])<|an (h k hk) (an (i0 b [aA.root,.ah [x,.none]])<|an (iv kR [aA.root,.ah [x,.none]]) (an (h' k hk) z)))))
 |false=>
  cases va with
  |false=>
   exact ao.go [.aK 2 (.val<|.str (hd<|ak a)),.au 0 ag,.call (.val x) [aA.root],.call (.val y) [aS.root],.aK 2 (.val<|.str (hd<|ak a)),.au 0 ag] λk hk z=>an (i0 a [s.root,.ah [.none,.none]]) (an (iv fE [s.root,.ah [.none,.none]])<|an (h k hk) (an (h' k hk)<|an (i0 a [aS.root,.ah [x,y]]) (an (iv fE [aS.root,.ah [x,y]]) z)))
  |true=>rw[Tw] at ho;cases ho
theorem aba{l:az}(ho:(cu a&&!(cu b&&l))=ae)(h:Ev n s b y aA)(h':Ev n aA a x aS):Lt (n+1) s a b l x y aS:=by
 have fE:=(dc.mp ho).1
 have kR:=(dc.mp ho).2
 cases l with
 |true=>
  have kR:cu b=ag:=by rw[ajI] at kR;exact(pF _).mp kR
  exact ao.go [.aK 2 (.val<|.str (hd<|ak a)),.au 0 ae,.aK 2 (.val<|.str (hd<|ak b)),.au 0 ag,.call (.val y) [aA.root],.aK 2 (.val<|.str (hd<|ak a)),.au 0 ae,.call (.val x) [aS.root],.aK 2 (.val<|.str (hd<|ak b)),.au 0 ag] λk hk z=>an (i0 a [s.root,.ah [.none,.none]]) (an (iv fE [s.root,.ah [.none,.none]])<|an (i0 b [s.root,.ah [.none,.none]]) (an (iv kR [s.root,.ah [.none,.none]])<|an (h k hk) (an (i0 a [aA.root,.ah [.none,y]])<|an (iv fE [aA.root,.ah [.none,y]]) (an (h' k hk)<|an (i0 b [aS.root,.ah [x,y]]) (an (iv kR [aS.root,.ah [x,y]]) z)))))
 |false=>
  exact ao.go [.aK 2 (.val<|.str (hd<|ak a)),.au 0 ae,.call (.val y) [aA.root],.aK 2 (.val<|.str (hd<|ak a)),.au 0 ae,.call (.val x) [aS.root]] λk hk z=>an (i0 a [s.root,.ah [.none,.none]]) (an (iv fE [s.root,.ah [.none,.none]])<|an (h k hk) (an (i0 a [aA.root,.ah [.none,y]])<|an (iv fE [aA.root,.ah [.none,y]]) (an (h' k hk) z)))
theorem ad9{o:O}(hx:bu 90000 x)(hy:bu 90000 y)(h:Lt (n+4) s a b ae x y t):Ev (n+5) s (.la (.bq o) a b) (fP o x y) t:=by
 exact ao.go [.call (.own<|.ah [x,y]) [t.root],.call (.val<|fP o x y) []] λk hk z=>an (h k hk) (an (zh o hx hy<|cx hk) z)
theorem ad0{m:ai}(hx:bu m x)(hy:bu m y)(h:Lt (n+4) s a b ag x y t):Ev (n+6) s (.la .cS a b) (dD x y) t:=
 kY (.inl rfl) (bJ rfl) (ao.go [.call (.own<|.ah [x,y]) [t.root],.call (.val<|dD x y) []] λk hk z=>an (h k hk)<|an (t6 hx hy<|cx hk) z)
end
section
variable{n m:ai}{c:az}{a b d e:E}{x y z v w:V}{s aA aS i5 t:St}
theorem gV{k:ai}{q:az}(hq:bF v=q)(h:bu n v)(hk:4<=k):b5 a8 k 49 [] [v] (.val<|.bool q) []:=hq▸zi h hk
theorem aef{o:az}(hx:bu m x)(ho:bF x=o)(h:Ev (n+4) s a x aA):Ev (n+5) s (.cN o a b) (.bool o) aA:=by
 cases o with
 |true=>exact ao.go [.call (.val x) [aA.root],.call (.val<|.bool ae) []] λk hk z=>an (h k hk) (an (gV ho hx<|cx hk) z)|false=>exact ao.go [.call (.val x) [aA.root],.call (.val<|.bool ag) []] λk hk z=>an (h k hk) (an (gV ho hx<|cx hk) z)
theorem aee{o:az}(hx:bu m x)(hy:bu m y)(ho:¬bF x=o)(h:Ev (n+4) s a x aA)(h':Ev (n+4) aA b y aS):Ev (n+5) s (.cN o a b) (.bool<|bF y) aS:=by
 cases o with
 |true=>exact ao.go [.call (.val x) [aA.root],.call (.val<|.bool ag) [],.call (.val y) [aS.root],.call (.val<|.bool (bF y)) []] λk hk z=>an (h k hk) (an (gV (cz.mpr ho) hx<|cx hk)<|an (h' k hk) (an (zi hy<|cx hk) z))|false=>exact ao.go [.call (.val x) [aA.root],.call (.val<|.bool ae) [],.call (.val y) [aS.root],.call (.val<|.bool (bF y)) []] λk hk z=>an (h k hk) (an (gV (Tv _▸ho) hx<|cx hk)<|an (h' k hk) (an (zi hy<|cx hk) z))
theorem ad4(ha:cu a=ag)(hq:dS x=ae)(h:Ev n s a x aA)(h':Ev n aA b y aS):Ev (n+1) s (.bW a b) y aS:=
 ao.go [.aK 2 (.val<|.str (hd<|ak a)),.au 0 ag,.call (.val x) [aA.root],.au 0 ae,.call (.val y) [aS.root]] λk hk z=>an (i0 a [s.root]) (an (iv ha [s.root])<|an (h k hk) (an (rN hq [aA.root])<|an (h' k hk) z))
theorem ad3(ha:cu a=ag)(hq:dS x=ag)(h:Ev n s a x aA):Ev (n+1) s (.bW a b) x aA:=
 ao.go [.aK 2 (.val<|.str (hd<|ak a)),.au 0 ag,.call (.val x) [aA.root],.au 0 ag] λk hk z=>an (i0 a [s.root]) (an (iv ha [s.root])<|an (h k hk) (an (rN hq [aA.root]) z))
theorem ad2{q:aq}(hq:dS (s.get q)=ae)(h':Ev n s b y aS):Ev (n+1) s (.bW (.var q) b) y aS:=
 ao.go [.au 6 ae,.call (.val y) [aS.root]] λk hk z=>an (rN hq [s.root]) (an (h' k hk) z)
theorem ad1{q:aq}(hq:dS (s.get q)=ag):Ev (n+1) s (.bW (.var q) b) (s.get q) s:=
 ao.go [.au 6 ag] λk hk z=>an (rN hq [s.root]) z
theorem adU(hx:bu m x)(hq:bF x=ae)(h:Ev (n+4) s a x aA):Ev (n+5) s (.c7 a b) x aA:=
 ao.go [.call (.val x) [aA.root],.call (.val<|.bool ae) []] λk hk z=>an (h k hk) (an (gV hq hx<|cx hk) z)
theorem adT(hx:bu m x)(hq:¬bF x=ae)(h:Ev (n+4) s a x aA)(h':Ev (n+4) aA b y aS):Ev (n+5) s (.c7 a b) y aS:=
 ao.go [.call (.val x) [aA.root],.call (.val<|.bool ag) [],.call (.val y) [aS.root]] λk hk z=>an (h k hk) (an (gV (cz.mpr hq) hx<|cx hk)<|an (h' k hk) z)
theorem adS(hx:bu m x)(hq:bF x=ae)(h:Ev (n+4) s a x aA)(h':Ev (n+4) aA b y aS):Ev (n+5) s (.c6 a b d) y aS:=
 ao.go [.call (.val x) [aA.root],.call (.val<|.bool ae) [],.au 0 ag,.call (.val y) [aS.root]] λk hk z=>an (h k hk) (an (gV hq hx<|cx hk)<|an (en b [aA.root]) (an (h' k hk) z))
theorem adR(hx:bu m x)(hq:¬bF x=ae)(h:Ev (n+4) s a x aA)(h':Ev (n+4) aA d y aS):Ev (n+5) s (.c6 a b d) y aS:=
 ao.go [.call (.val x) [aA.root],.call (.val<|.bool ag) [],.call (.val y) [aS.root]] λk hk z=>an (h k hk) (an (gV (cz.mpr hq) hx<|cx hk)<|an (h' k hk) z)
theorem adX{q:aq}(hq:dS (s.get q)=ae)(f:b6 c aA)(h:Ev n s e v aA):Ev (n+2) s (.dz q e) v (aA.bI q v):=
 qG (.inr<|.inl rfl) (bJ rfl) (ao.go [.au 8 ag,.call (.val v) [aA.root],.set 0 [(aA.bI q v).root]] λk hk z=>an (tQ hq [s.root])<|an (h k hk) (an (tM f.vars q v []) z))
theorem adW{q:aq}(hq:¬dS (s.get q)=ae):Ev (n+2) s (.dz q e) (s.get q) s:=
 qG (.inr<|.inl rfl) (bJ rfl) (ao.go [.au 8 ae] λk hk z=>an (rO (cz.mpr hq) [s.root]) z)
theorem adZ(hx:bu aS.n x)(um:bu aA.n x)(hy:bu aS.n y)(g:bX c aA)(f:b6 c aS)(hq:dS (dD (aA.get bz) x)=ae)(h:Ev (n+4) s a x aA)(h':Ev (n+4) aA b y aS):Ev (n+6) s (.c8 a b) y (aS.eH x y):=by
 refine qG (.inr<|.inl rfl) (bJ rfl) ?_
 cases hz:dS x with
 |true=>exact ao.go [.call (.val x) [aA.root],.au 3 ag,.call (.val<|dD (aA.get bz) x) [],.au 0 ag,.call (.val y) [aS.root],.call (.val y) [(aS.eH x y).root]] λk hk z=>an (h k hk) (an (tQ hz [aA.root])<|an (t6 (g.get bz) um<|cx hk) (an (tQ hq [aA.root])<|an (h' k hk) (an (Cf hx hy f<|cx hk) z)))|false=>exact ao.go [.call (.val x) [aA.root],.au 3 ae,.call (.val<|dD (aA.get bz) x) [],.au 0 ag,.call (.val y) [aS.root],.call (.val y) [(aS.eH x y).root]] λk hk z=>an (h k hk) (an (rO hz [aA.root])<|an (t6 (g.get bz) um<|cx hk) (an (tQ hq [aA.root])<|an (h' k hk) (an (Cf hx hy f<|cx hk) z)))
theorem adY(um:bu aA.n x)(g:bX c aA)(hq:¬dS (dD (aA.get bz) x)=ae)(h:Ev (n+4) s a x aA):Ev (n+6) s (.c8 a b) (dD (aA.get bz) x) aA:=by
 refine qG (.inr<|.inl rfl) (bJ rfl) ?_
 have hq:=cz.mpr hq
 cases hz:dS x with
 |true=>exact ao.go [.call (.val x) [aA.root],.au 3 ag,.call (.val<|dD (aA.get bz) x) [],.au 0 ae] λk hk z=>an (h k hk) (an (tQ hz [aA.root])<|an (t6 (g.get bz) um<|cx hk) (an (rO hq [aA.root]) z))|false=>exact ao.go [.call (.val x) [aA.root],.au 3 ae,.call (.val<|dD (aA.get bz) x) [],.au 0 ae] λk hk z=>an (h k hk) (an (rO hz [aA.root])<|an (t6 (g.get bz) um<|cx hk) (an (rO hq [aA.root]) z))
theorem iL{b:az}(h:cD x w=b)(rs:Rs):cv .eq (.val<|.str x.shown) (.val<|.str w.shown) rs=ab b:=(iC _ _ rs).trans (ay ab h)
theorem adQ{u:V}(ha:cu a=ag)(hx:bu 90000 x)(hw:bu 90000 w)(hu:bu 90000 u)(h:Ev n s a x aA):Ev (n+2) s (.cZ a w u) (if cD x w||cD x u then .int 7 else .int 8) aA:=by
 refine kY (.inr<|.inr (.inr<|.inl rfl)) (bJ rfl) ?_
 have A:=λr:St=>iv ha [r.root]
 cases c1:cD x w with
 |true=>
  exact ao.go [.aK 2 (.val<|.str (hd<|ak a)),.au 0 ag,.call (.val x) [aA.root],.aK 2 (.val<|.str (hd<|ak a)),.au 0 ag,.bi 0 (.val<|.str x.shown),.bi 0 (.val<|.str w.shown),.au 0 ae] λk hk z=>an (i0 a [s.root]) (an (A s)<|an (h k hk) (an (i0 a [aA.root])<|an (A aA) (an (eg hx)<|an (eg hw) (an (iL c1 [aA.root]) z))))
 |false=>
  cases c2:cD x u with
  |true=>
   exact ao.go [.aK 2 (.val<|.str (hd<|ak a)),.au 0 ag,.call (.val x) [aA.root],.aK 2 (.val<|.str (hd<|ak a)),.au 0 ag,.bi 0 (.val<|.str x.shown),.bi 0 (.val<|.str w.shown),.au 0 ag,.aK 1 (.val<|.str (hd<|ak a)),.au 0 ag,.bi 0 (.val<|.str x.shown),.bi 0 (.val<|.str u.shown),.au 0 ae] λk hk z=>an (i0 a [s.root]) (an (A s)<|an (h k hk) (an (i0 a [aA.root])<|an (A aA) (an (eg hx)<|an (eg hw) (an (iL c1 [aA.root])<|an (i0 a [aA.root]) (an (A aA)<|an (eg hx) (an (eg hu)<|an (iL c2 [aA.root]) z))))))
  |false=>
   exact ao.go [.aK 2 (.val<|.str (hd<|ak a)),.au 0 ag,.call (.val x) [aA.root],.aK 2 (.val<|.str (hd<|ak a)),.au 0 ag,.bi 0 (.val<|.str x.shown),.bi 0 (.val<|.str w.shown),.au 0 ag,.aK 1 (.val<|.str (hd<|ak a)),.au 0 ag,.bi 0 (.val<|.str x.shown),.bi 0 (.val<|.str u.shown),.au 0 ag] λk hk z=>an (i0 a [s.root]) (an (A s)<|an (h k hk) (an (i0 a [aA.root])<|an (A aA) (an (eg hx)<|an (eg hw) (an (iL c1 [aA.root])<|an (i0 a [aA.root]) (an (A aA)<|an (eg hx) (an (eg hu)<|an (iL c2 [aA.root]) z))))))
theorem adP{q:aq}{u:V}(hx:bu 90000 (s.get q))(hw:bu 90000 w)(f:b6 c s)(c1:cD (s.get q) w=ae):Ev 6 s (.cZ (.var q) w u) (.int 7) (s.rd q):=
 kY (.inr<|.inr (.inr<|.inl rfl)) (bJ rfl) (ao.go (n:=4) [.call (.val<|s.get q) [(s.rd q).root],.bi 0 (.val<|.str (s.get q).shown),.bi 0 (.val<|.str w.shown),.au 0 ae] λk hk z=>an (lM q f hk)<|an (eg hx) (an (eg hw)<|an (iL c1 [(s.rd q).root]) z))
theorem Ch{k:ai}{q:aq}(f:b6 c (s.rd q))(hk:4<=k):b5 a8 k 51 [(s.rd q).root] [.str q] (.val<|s.get q) [((s.rd q).rd q).root]:=(Xo s q q)▸lM q f hk
theorem adO{q:aq}{u:V}(hx:bu 90000 (s.get q))(hw:bu 90000 w)(hu:bu 90000 u)(f:b6 c s)(f':b6 c (s.rd q))(c1:¬cD (s.get q) w=ae)(c2:cD (s.get q) u=ae):Ev 6 s (.cZ (.var q) w u) (.int 7) ((s.rd q).rd q):=
 kY (.inr<|.inr (.inr<|.inl rfl)) (bJ rfl) (ao.go (n:=4) [.call (.val<|s.get q) [(s.rd q).root],.bi 0 (.val<|.str (s.get q).shown),.bi 0 (.val<|.str w.shown),.au 0 ag,.call (.val<|s.get q) [((s.rd q).rd q).root],.bi 0 (.val<|.str (s.get q).shown),.bi 0 (.val<|.str u.shown),.au 0 ae] λk hk z=>an (lM q f hk)<|an (eg hx) (an (eg hw)<|an (iL (cz.mpr c1) [(s.rd q).root]) (an (Ch f' hk)<|an (eg hx) (an (eg hu)<|an (iL c2 [((s.rd q).rd q).root]) z))))
theorem adN{q:aq}{u:V}(hx:bu 90000 (s.get q))(hw:bu 90000 w)(hu:bu 90000 u)(f:b6 c s)(f':b6 c (s.rd q))(c1:¬cD (s.get q) w=ae)(c2:¬cD (s.get q) u=ae):Ev 6 s (.cZ (.var q) w u) (.int 8) ((s.rd q).rd q):=
 kY (.inr<|.inr (.inr<|.inl rfl)) (bJ rfl) (ao.go (n:=4) [.call (.val<|s.get q) [(s.rd q).root],.bi 0 (.val<|.str (s.get q).shown),.bi 0 (.val<|.str w.shown),.au 0 ag,.call (.val<|s.get q) [((s.rd q).rd q).root],.bi 0 (.val<|.str (s.get q).shown),.bi 0 (.val<|.str u.shown),.au 0 ag] λk hk z=>an (lM q f hk)<|an (eg hx) (an (eg hw)<|an (iL (cz.mpr c1) [(s.rd q).root]) (an (Ch f' hk)<|an (eg hx) (an (eg hu)<|an (iL (cz.mpr c2) [((s.rd q).rd q).root]) z))))
def jk(N:ai)(s:St)(e:E)(p:V×St):Prop:=Ev N s e p.1 p.2
theorem rZ{e:E}(h:cu e=ae):e=.var (d5 e):=by
 cases e with
 |var q=>rfl|_=>cases h
theorem zW{N h:ai}{p:V×St}(hN:N<=6)(q:jk N s e p):jk (3*h+6) s e p:=ao.aU q (aj hN<|bY 6 (3*h))
theorem jM{h:ai}{e:E}(o:aL c h e):∀s,bX c s->(ev e s).2.n<=90000->jk (3*h+6) s e (ev e s):=by
 induction o with
 |lit q=>exactλs g hn=>zW aa P0|var q=>exactλs g hn=>zW aa (adG ⟨g,aj (gm s _) hn⟩)|y0=>exactλs g hn=>zW aa (adF ⟨g,aj (aR _) hn⟩)|dW q=>exactλs g hn=>have l:=aj (aR _) hn;zW aa (adV ⟨g,aj (gm s _) l⟩ ⟨g.rd q,l⟩)|@un _ u e hu oe ih=>
  intro s g hn
  have k:=cX oe s g
  have kq:=aj (Ry hu k.g k.v).n hn
  have q:=ih s g kq
  have f:b6 c (ev e s).2:=⟨k.g,kq⟩
  cases u with
  |y1=>exact(adE f q).s1.s1|yf=>exact(adC f q).s1.s1|call=>exact(ad8 f q).s1|nt=>exact(adL k.v q).s1|neg=>exact(adM k.v q).s1|jP=>exact(adI f k.v q).s1|fF=>exact(ad6 k.v q).s1|iS=>exact(ad5 k.v q).s1|aN x=>exact(aeb f q).s1|op p x=>exact(adK f ⟨k.g.rd hu,hn⟩ k.v q).s1|bS sp=>exact(aed k.v q).s1
 |@bi _ w a b oa ob aE aJ=>
  intro s g hn
  have ka:=cX oa s g
  have kb:=cX ob _ ka.g
  have va:=ka.v.aU kb.n
  have hb:=aj (Rw (k:=w) kb.g va kb.v).n hn
  have qa:=aE s g (aj kb.n hb)
  have qb:=aJ _ ka.g hb
  have f:b6 c (ev b (ev a s).2).2:=⟨kb.g,hb⟩
  cases w with
  |y2=>exact(adD f qa qb).s1.s1|call=>exact(ad7 f qa qb).s1|bS sa sb=>exact(aec ka.v kb.v qa qb).s1|dY=>exact(adH ka.v kb.v qa qb).s1|d8=>exact(aea f va kb.v qa qb).s1|fW p=>exact(adJ f ⟨kb.g.rd .d,hn⟩ va kb.v qa qb).s1
 |@la h₀ l a b oa ob aE aJ=>
  intro s g
  have key:∀{x y t},bu 90000 x->bu 90000 y->Lt (3*h₀+3+4) s a b l.late x y t->jk (3*(h₀+1)+6) s (.la l a b) (gu l x y,t):=λhx hy q=>by
   cases l with
   |bq o=>exact(ad9 hx hy q).s1|cS=>exact ad0 hx hy q
  refine aO (λp:V×St=>p.2.n<=90000->jk _ s _ p) (λq hn=>?_) λq hn=>?_
  ·have kb:=cX ob s g
   have ka:=cX oa _ kb.g
   have hb:=aj ka.n hn
   exact key (ka.v.aU hn) (kb.v.aU hb) (aba q (aJ s g hb)<|aE _ kb.g hn)
  ·have ka:=cX oa s g
   have kb:=cX ob _ ka.g
   have ha:=aj kb.n hn
   exact key (ka.v.aU ha) (kb.v.aU hn) (abb (cz.mpr q) (aE s g ha)<|aJ _ ka.g hn)
 |@cN _ o a b oa ob aE aJ=>
  intro s g
  have ka:=cX oa s g
  have kb:=cX ob _ ka.g
  refine aO (λp:V×St=>p.2.n<=90000->jk _ s _ p) (λq hn=>(aef ka.v q<|aE s g hn).s1.s1) λq hn=>(aee (ka.v.aU kb.n) kb.v q (aE s g<|aj kb.n hn)<|aJ _ ka.g hn).s1.s1
 |@bW h₀ a b oa ob _ aE aJ=>
  intro s g
  have tl:∀{p:V×St},Ge c s p->(p.2.n<=90000->dS p.1=ae->Ev (3*h₀+6) p.2 b (ev b p.2).1 (ev b p.2).2->jk (3*(h₀+1)+6) s (.bW a b) (ev b p.2))->(p.2.n<=90000->dS p.1=ag->jk (3*(h₀+1)+6) s (.bW a b) p)->(if dS p.1 then ev b p.2 else p).2.n<=90000->jk (3*(h₀+1)+6) s (.bW a b) (if dS p.1 then ev b p.2 else p):=λ{p} k h1 h2=>by
   have kb:=cX ob _ k.g
   exact aO (λr:V×St=>r.2.n<=90000->jk _ s _ r) (λq hn=>h1 (aj kb.n hn) q<|aJ _ k.g hn) λq hn=>h2 hn (cz.mpr q)
  cases hv:cu a with
  |true=>
   obtain⟨q,rfl⟩:∃q,a=.var q:=⟨_,rZ hv⟩
   exact tl (p:=(s.get q,s)) ⟨g,g.get q,aF _⟩ (λhn q r=>(ad2 q r).s1.s1) λhn q=>(ad1 (n:=3*h₀+6) q).s1.s1
  |false=>
   have ka:=cX oa s g
   have k:=tl (p:=ev a s) ka (λhn q r=>(ad4 hv q (aE s g hn) r).s1.s1) λhn q=>(ad3 hv q<|aE s g hn).s1.s1
   have e:ev (.bW a b) s=if dS (ev a s).1 then ev b (ev a s).2 else ev a s:=by
    show(if dS (if cu a then(s.get (d5 a),s) else ev a s).1 then ev b (if cu a then(s.get (d5 a),s) else ev a s).2 else(if cu a then(s.get (d5 a),s) else ev a s))=_
    rw[br<|cz.mp hv]
   rw[e];exact k
 |@c7 _ a b oa ob aE aJ=>
  intro s g
  have ka:=cX oa s g
  have kb:=cX ob _ ka.g
  exact aO (λp:V×St=>p.2.n<=90000->jk _ s _ p) (λq hn=>(adU ka.v q<|aE s g hn).s1.s1) λq hn=>(adT ka.v q (aE s g<|aj kb.n hn)<|aJ _ ka.g hn).s1.s1
 |@c6 _ a b d oa ob od aE aJ gW=>
  intro s g
  have ka:=cX oa s g
  have kb:=cX ob _ ka.g
  have kd:=cX od _ ka.g
  exact aO (λp:V×St=>p.2.n<=90000->jk _ s _ p) (λq hn=>(adS ka.v q (aE s g<|aj kb.n hn)<|aJ _ ka.g hn).s1.s1) λq hn=>(adR ka.v q (aE s g<|aj kd.n hn)<|gW _ ka.g hn).s1.s1
 |@dz h₀ x e hx oe ih=>
  intro s g
  have k:=cX oe s g
  exact aO (λp:V×St=>p.2.n<=90000->jk _ s _ p) (λq hn=>(adX q ⟨k.g,hn⟩<|ih s g hn).s1) λq hn=>(adW (n:=3*h₀+6) q).s1
 |@c8 _ a b oa ob aE aJ=>
  intro s g
  have ka:=cX oa s g
  have kb:=cX ob _ ka.g
  exact aO (λp:V×St=>p.2.n<=90000->jk _ s _ p) (λq hn=>(adZ (ka.v.aU kb.n) ka.v kb.v ka.g ⟨kb.g,hn⟩ q (aE s g<|aj kb.n hn)<|aJ _ ka.g hn).s1) λq hn=>(adY ka.v ka.g q<|aE s g hn).s1
 |@cZ h₀ a w u oa hw hu ih=>
  intro s g
  have w':=(dr.ok hw).aU (bQ 90000)
  have u':=(dr.ok hu).aU (bQ 90000)
  have l1:=gm s (d5 a)
  have l2:=gm (s.rd<|d5 a) (d5 a)
  refine aO (λp:V×St=>p.2.n<=90000->jk _ s _ p) (λhv=>?_) λhv hn=>(adQ (cz.mpr hv) ((cX oa s g).v.aU hn) w' u'<|ih s g hn).s1
  have nm:=m4 oa hv
  rw[rZ hv]
  generalize d5 a=q at nm l1 l2 ⊢
  have b:∀{p},jk 6 s (.cZ (.var q) w u) p->jk (3*(h₀+1)+6) s (.cZ (.var q) w u) p:=λh=>zW aa h
  have x:=λ(hn:s.n<=90000)=>(g.get q).aU hn
  refine aO (λp:V×St=>p.2.n<=90000->jk _ s _ p) (λc1 hn=>b<|adP (x<|aj l1 hn) w' ⟨g,aj l1 hn⟩ c1) λc1=>aO (λp:V×St=>p.2.n<=90000->jk _ s _ p) (λc2 hn=>?_) λc2 hn=>?_
  ·have h1:=aj l2 hn
   have h0:=aj l1 h1
   exact b (adO (x h0) w' u' ⟨g,h0⟩ ⟨g.rd nm,h1⟩ c1 c2)
  ·have h1:=aj l2 hn
   have h0:=aj l1 h1
   exact b (adN (x h0) w' u' ⟨g,h0⟩ ⟨g.rd nm,h1⟩ c1 c2)
end
theorem ao.ex{n f nv:ai}{ps:af az}{body:af ST}{own cE:Rs}{ds:af V}{m:MV}(h:a8 f=ab ⟨ps,nv,body⟩)
  (h1:own.length=(ps.filter (·==ae)).length)(h2:ds.length=(ps.filter (·==ag)).length)
  (H:∀k,n<=k->∃os,dK (b5 a8 k) (dQ a8) body own (slots ps 0 ds++eW (nv-ps.length) aw) os λfl rs _ _=>a6 own.length fl rs=ab (m,cE)):ao (n+1) f own ds m cE:=by
 intro k hk
 cases k with
 |zero=>exact dk hk (uZ n)|succ k=>
  show(match a8 f with
   |none=>False|some fn=>own.length=(fn.ps.filter (·==ae)).length/\ds.length=(fn.ps.filter (·==ag)).length/\
     ∃os,dK (b5 a8 k) (dQ a8) fn.body own (slots fn.ps 0 ds++eW (fn.nv-fn.ps.length) aw) os λfl rs _ _=>a6 own.length fl rs=ab (m,cE))
  rw[h]
  exact⟨h1,h2,H k<|sO hk⟩
section
def bj:Sg->V
 | .nx=>.none| .bk=>fY ae| .ct=>fY ag| .rt v=>.tuple [.str jt,v]
noncomputable def e7:Sg->az
 | .nx=>ag| .ct=>ag|_=>ae
noncomputable def eQ:Sg->Sg
 | .bk=>.nx| .ct=>.nx|g=>g
def oS(g:Sg):V:=.tuple [.bool (e7 g),bj<|eQ g]
def CK:Sg->Fl
 | .nx=>.nx|g=>.rt (.val<|bj g)
noncomputable def Xa:af ST:=[.aN 3 (.call 62 [.var 0,.var 2]),.ite (.au .kh (.var 3)<|.lit .none) [.ret<|.var 3] []]
def W8(k:ai)(x:V)(rs:Rs)(vs:Vs)(os:Os)(K:Fl->Rs->Vs->Os->Prop):Prop:=b4 (hO (.name 2) x vs) os λvs os=>dK (b5 a8 k) (dQ a8) Xa rs vs os K
noncomputable def yE(w:V)(v2 v3:aD MV):Vs:=[ab (.ref 0),ab (.val w),v2,v3]
def Lp(k:ai)(b:af S)(s:St)(g:Sg)(t:St):Prop:=∀(w:V)(v2 v3:aD MV),∃(UG UE:aD MV)(os:Os),je (W8 k) (av b) [s.root] (yE w v2 v3) os λfl rs vs _=>fl=CK g/\rs=[t.root]/\vs=yE w UG UE
def Ex(N:ai)(s:St)(x:S)(g:Sg)(t:St):Prop:=ao N 62 [s.root] [aM x] (.val<|bj g) [t.root]
def Rn(N:ai)(s:St)(b:af S)(g:Sg)(t:St):Prop:=ao N 60 [s.root] [.tuple<|av b] (.val<|bj g) [t.root]
end
theorem aeh(xs:af V)(q:aq)(rs:Rs):cv .eq (.val<|.tuple xs) (.val<|.tuple [.str q,.int 1]) rs=ab (SG xs [.str q,.int 1]):=
 xg (d:=.tuple xs) (e:=.tuple [.str q,.int 1]) (aj (u3 _ _)<|show jC (.tuple [.str q,.int 1])<=100 by simp[jC,mT])
theorem LX(v:V){q:aq}(h:dM jt q=ag)(rs:Rs):cv .eq (.val<|.tuple [.str jt,v]) (.val<|.tuple [.str q,.int 1]) rs=ab ag:=by
 refine(aeh [.str jt,v] q rs).trans (ay ab ?_)
 show(jZ (.str jt) (.str q)&&_)=ag
 rw[qH]
 show(dM jt q&&_)=ag
 rw[h];rfl
theorem XG(g:Sg):ao 1 61 [] [bj g] (.val<|oS g) []:=by
 cases g with
 |rt v=>exact ao.go [.au 1 ag,.au 0 ag] λk _ z=>an (LX v (q:=wu) rfl []) (an (LX v (q:=wy) rfl []) z)|_=>exact ao.go [] λk _ z=>z
theorem rX(g:Sg){k:ai}(hk:4<=k):b5 a8 k 61 [] [bj g] (.val<|oS g) []:=XG g k (aj aa hk)
section
variable{n m k:ai}{c:az}{a e e':E}{b b' o r:af S}{q:S}{x y v:V}{s aA aS i5 t:St}{g dw:Sg}
theorem aaK:Lp k [] s .nx s:=λw v2 v3=>⟨v2,v3,[],rfl,rfl,rfl⟩
theorem aaL(h:b5 a8 k 62 [s.root] [aM q] (.val .none) [aA.root])(hr:Lp k r aA g t):Lp k (q::r) s g t:=λw v2 v3=>
 (hr w (ab<|.val (aM q))<|ab (.val .none)).imp λ_=>.imp λ_=>.imp' (.call (.val .none) [aA.root]::.au 0 ag::.tr 0 ag::·) λ_ z=>cR (an h<|an (tQ (v:=.none) rfl [aA.root]) (an (show fM (.val<|.bool ag) [aA.root]=ab ag from rfl) z)) (by kernel_rfl)
theorem Xb(hg:dS (bj g)=ag):Fl.rt (.val<|bj g)=CK g:=by
 cases g with
 |nx=>cases hg|_=>rfl
theorem NR(hg:dS (bj g)=ag)(h:b5 a8 k 62 [s.root] [aM q] (.val<|bj g) [aA.root]):Lp k (q::r) s g aA:=λw v2 v3=>
 ⟨ab (.val<|aM q),ab (.val<|bj g),[.call (.val<|bj g) [aA.root],.au 0 ae],cR (an h<|an (rO hg [aA.root]) (⟨Xb hg,rfl,rfl⟩:Fl.rt (.val<|bj g)=CK g/\[aA.root]=[aA.root]/\yE w (ab<|.val (aM q)) (ab<|.val (bj g))=yE w (ab<|.val (aM q)) (ab<|.val (bj g))))<|by kernel_rfl⟩
theorem LU(h:∀k,n<=k->Lp k b s g t):Rn (n+1) s b g t:=
 ao.ex rfl rfl rfl λk hk=>(h k hk (.tuple<|av b) aw aw).elim λv2 q=>q.elim λv3 q=>⟨[.lp (CK g) [t.root]<|yE (.tuple<|av b) v2 v3],by
  cases g with
  |nx=>exact cR (an q (rfl:ab (MV.val (bj .nx),[t.root])=ab (MV.val (bj .nx),[t.root]))) (by kernel_rfl)|bk=>exact cR (an q (rfl:ab (MV.val (bj .bk),[t.root])=ab (MV.val (bj .bk),[t.root]))) (by kernel_rfl)|ct=>exact cR (an q (rfl:ab (MV.val (bj .ct),[t.root])=ab (MV.val (bj .ct),[t.root]))) (by kernel_rfl)|rt v=>exact cR (an q (rfl:ab (MV.val (bj<|.rt v),[t.root])=ab (MV.val (bj<|.rt v),[t.root])))<|by kernel_rfl⟩
theorem Nn{c:az}(h:cu e=!c)(rs:Rs):cv .ne (.val<|.str (hd<|ak e)) (.val<|.str pT) rs=ab c:=(B1 _ _ rs).trans (ay ab<|by rw[(nd e).va,h,Bool.not_not])
theorem TS(hv:cu e=ae):Ex 1 s (.ex e) .nx s:=
 ao.go [.aK 2 (.val<|.str (hd<|ak e)),.au 0 ag] λk _ z=>an (i0 e [s.root]) (an (Nn (c:=ag) hv [s.root]) z)
theorem TQ(hv:cu e=ag)(h:Ev n s e v aA):Ex (n+1) s (.ex e) .nx aA:=
 ao.go [.aK 2 (.val<|.str (hd<|ak e)),.au 0 ae,.call (.val v) [aA.root]] λk hk z=>an (i0 e [s.root]) (an (Nn (c:=ae) hv [s.root])<|an (h k hk) z)
theorem TU(f:b6 c aA)(hx:bu aA.n x)(h:Ev (n+4) s e x aA):Ex (n+5) s (.dT e) .nx (aA.gj<|.tuple [.str iz,.str<|cY x]):=
 ao.go [.call (.val x) [aA.root],.call (.val<|.str (cY x)) [],.bw 0 (.val .none) [(aA.gj<|.tuple [.str iz,.str<|cY x]).root]] λk hk z=>an (h k hk) (an (t7 hx<|cx hk)<|an (vW f.bM (.tuple [.str iz,.str<|cY x]) []) z)
theorem TT(f:b6 c aA)(f':b6 c aS)(hx:bu aA.n x)(hy:bu aS.n y)(h:Ev (n+4) s e x aA)(h':Ev (n+4) (aA.gj<|.tuple [.str iz,.str<|cY x]) e' y aS):Ex (n+5) s (.ig e e') .nx (aS.gj<|.tuple [.str iz,.str<|cY y]):=
 ao.go [.call (.val x) [aA.root],.call (.val<|.str (cY x)) [],.bw 0 (.val .none) [(aA.gj<|.tuple [.str iz,.str<|cY x]).root],.call (.val y) [aS.root],.call (.val<|.str (cY y)) [],.bw 0 (.val .none) [(aS.gj<|.tuple [.str iz,.str<|cY y]).root]] λk hk z=>an (h k hk) (an (t7 hx<|cx hk)<|an (vW f.bM (.tuple [.str iz,.str<|cY x]) []) (an (h' k hk)<|an (t7 hy<|cx hk) (an (vW f'.bM (.tuple [.str iz,.str<|cY y]) []) z)))
theorem Ky{j:az}:Ex 1 s (.fk j) (if j then .bk else .ct) s:=by
 cases j<;>exact ao.go [] λk _ z=>z
theorem TG:Ex 1 s .jK (.rt .none) s:=ao.go [] λk _ z=>z
theorem TH(h:Ev n s e x aA):Ex (n+1) s (.ret e) (.rt x) aA:=
 ao.go [.au 4 ag,.call (.val x) [aA.root]] λk hk z=>an (en e [s.root]) (an (h k hk) z)
theorem TX(h:Rn n s b g t):Ex (n+1) s (.gO b) g t:=
 ao.go [.call (.val<|bj g) [t.root]] λk hk z=>an (h k hk) z
theorem TO{p:az}(hx:bu m x)(hq:bF x=ae)(hc:Ev (n+4) s e x aA)(h:Rn (n+4) aA b g t):Ex (n+5) s (.b9 e b o p) g t:=
 ao.go [.call (.val x) [aA.root],.call (.val<|.bool ae) [],.call (.val<|bj g) [t.root]] λk hk z=>an (hc k hk) (an (gV hq hx<|cx hk)<|an (h k hk) z)
def El(n:ai)(p:az)(s:St)(o:af S)(g:Sg)(t:St):Prop:=if p then Rn n s o g t else g=.nx/\t=s
theorem TN{p:az}(hx:bu m x)(hq:bF x=ag)(hc:Ev (n+4) s e x aA)(h:El (n+4) p aA o g t):Ex (n+5) s (.b9 e b o p) g t:=by
 cases p with
 |true=>exact ao.go [.call (.val x) [aA.root],.call (.val<|.bool ag) [],.call (.val<|bj g) [t.root]] λk hk z=>an (hc k hk) (an (gV hq hx<|cx hk)<|an ((show Rn (n+4) aA o g t from h) k hk) z)|false=>
  obtain⟨rfl,rfl⟩:=h
  exact ao.go [.call (.val x) [t.root],.call (.val<|.bool ag) []] λk hk z=>an (hc k hk) (an (gV hq hx<|cx hk) z)
theorem TK{p:az}(hx:bu m x)(hq:bF x=ae)(hc:Ev (n+4) s e x aA)(h:Rn (n+4) aA b g t):Ex (n+5) s (.dH e b e' b' o p) g t:=
 ao.go [.call (.val x) [aA.root],.call (.val<|.bool ae) [],.call (.val<|bj g) [t.root]] λk hk z=>an (hc k hk) (an (gV hq hx<|cx hk)<|an (h k hk) z)
theorem TJ{p:az}(hx:bu m x)(hq:bF x=ag)(hy:bu m y)(qw:bF y=ae)(hc:Ev (n+4) s e x aA)(si:Ev (n+4) aA e' y aS)(h:Rn (n+4) aS b' g t):Ex (n+5) s (.dH e b e' b' o p) g t:=
 ao.go [.call (.val x) [aA.root],.call (.val<|.bool ag) [],.call (.val y) [aS.root],.call (.val<|.bool ae) [],.call (.val<|bj g) [t.root]] λk hk z=>an (hc k hk) (an (gV hq hx<|cx hk)<|an (si k hk) (an (gV qw hy<|cx hk)<|an (h k hk) z))
theorem TI{p:az}(hx:bu m x)(hq:bF x=ag)(hy:bu m y)(qw:bF y=ag)(hc:Ev (n+4) s e x aA)(si:Ev (n+4) aA e' y aS)(h:El (n+4) p aS o g t):Ex (n+5) s (.dH e b e' b' o p) g t:=by
 cases p with
 |true=>exact ao.go [.call (.val x) [aA.root],.call (.val<|.bool ag) [],.call (.val y) [aS.root],.call (.val<|.bool ag) [],.call (.val<|bj g) [t.root]] λk hk z=>an (hc k hk) (an (gV hq hx<|cx hk)<|an (si k hk) (an (gV qw hy<|cx hk)<|an ((show Rn (n+4) aS o g t from h) k hk) z))|false=>
  obtain⟨rfl,rfl⟩:=h
  exact ao.go [.call (.val x) [aA.root],.call (.val<|.bool ag) [],.call (.val y) [t.root],.call (.val<|.bool ag) []] λk hk z=>an (hc k hk) (an (gV hq hx<|cx hk)<|an (si k hk) (an (gV qw hy<|cx hk) z))
noncomputable def MO:Sg->Sg->Sg
 |g,.nx=>g|_,g=>g
theorem TC(h:Rn n s b g aA)(h':Rn n aA b' dw t):Ex (n+1) s (.tr b b') (MO g dw) t:=by
 cases dw with
 |nx=>exact ao.go [.call (.val<|bj g) [aA.root],.call (.val<|bj .nx) [t.root]] λk hk z=>an (h k hk) (an (h' k hk) z)|bk=>exact ao.go [.call (.val<|bj g) [aA.root],.call (.val<|bj .bk) [t.root]] λk hk z=>an (h k hk) (an (h' k hk) z)|ct=>exact ao.go [.call (.val<|bj g) [aA.root],.call (.val<|bj .ct) [t.root]] λk hk z=>an (h k hk) (an (h' k hk) z)|rt v=>exact ao.go [.call (.val<|bj g) [aA.root],.call (.val<|bj (.rt v)) [t.root]] λk hk z=>an (h k hk) (an (h' k hk) z)
end
section
def Vk:af ST:=[.aN 8 (.call 60 [.var 0,.var 7]),.ite (.au .kh (.var 8)<|.lit .none) [.ret<|.ite (.au .dt (.var 8)<|.ah [.aC [.lit (.str wy),.lit<|.int 1],.aC [.lit (.str wu),.lit<|.int 1]]) (.lit .none) (.var 8)] []]
def Vi(k:ai)(x:V)(rs:Rs)(vs:Vs)(os:Os)(K:Fl->Rs->Vs->Os->Prop):Prop:=b4 (hO (.aC [6,7]) x vs) os λvs os=>dK (b5 a8 k) (dQ a8) Vk rs vs os K
noncomputable def m7(w:V)(v2 v3 v4 v5 v6 v7 v8:aD MV):Vs:=[ab (.ref 0),ab (.val w),v2,v3,v4,v5,v6,v7,v8]
def mM(w:V)(b:af S):V:=.tuple [w,.tuple<|av b]
def Sp(k:ai)(xs:af V)(s:St)(g:Sg)(t:St):Prop:=∀(w:V)(v2 v3 v4 v5 v6 v7 v8:aD MV),∃(UD UC UB:aD MV)(os:Os),je (Vi k) xs [s.root] (m7 w v2 v3 v4 v5 v6 v7 v8) os λfl rs vs _=>fl=.rt (.val<|bj g)/\rs=[t.root]/\vs=m7 w v2 v3 v4 v5 UD UC UB
end
section
variable{n m k:ai}{c:az}{e:E}{b x y r:af S}{v w:V}{xs:af V}{s aA aS t:St}{g dw:Sg}
theorem OQ{a:V}{q:az}(h:[fY ae,fY ag].any (λy=>jZ y a)=q)(rs:Rs):cv .dt (.val a) (.own<|.ah [fY ae,fY ag]) rs=ab q:=
 (a9 (aj (ai5 _ _)<|show mT [fY ae,fY ag]<=100 by decide):zq a (.list [fY ae,fY ag])=ab _).trans (ay ab h)
theorem M8(h:g≠.nx):dS (bj g)=ag:=by cases g<;>first|rfl|exact dk rfl h
theorem Ll(h:b5 a8 k 60 [s.root] [.tuple<|av b] (.val .none) [aA.root])(hr:Sp k xs aA g t):Sp k (mM w b::xs) s g t:=λw' v2 v3 v4 v5 v6 v7 v8=>
 (hr w' v2 v3 v4 v5 (ab<|.val w) (ab<|.val (.tuple<|av b))<|ab (.val .none)).imp λ_=>.imp λ_=>.imp λ_=>.imp' (.call (.val .none) [aA.root]::.au 0 ag::.tr 0 ag::·) λ_ z=>cR (an h<|an (tQ (v:=.none) rfl [aA.root]) (an (show fM (.val<|.bool ag) [aA.root]=ab ag from rfl) z)) (by kernel_rfl)
theorem EY{q:az}(hg:g≠.nx)(hq:[fY ae,fY ag].any (λy=>jZ y<|bj g)=q)(h:b5 a8 k 60 [s.root] [.tuple<|av b] (.val<|bj g) [aA.root])(e:bj (eQ g)=if q then .none else bj g):Sp k (mM w b::xs) s (eQ g) aA:=λw' v2 v3 v4 v5 v6 v7 v8=>by
 refine⟨ab (.val w),ab (.val<|.tuple (av b)),ab (.val<|bj g),[.call (.val<|bj g) [aA.root],.au 0 ae,.au 0 q],?_⟩
 rw[e]
 cases q with
 |true=>exact cR (an h<|an (rO (M8 hg) [aA.root]) (an (OQ hq [aA.root]) (⟨rfl,rfl,rfl⟩:Fl.rt (.val .none)=.rt (.val .none)/\[aA.root]=[aA.root]/\m7 w' v2 v3 v4 v5 (ab<|.val w) (ab<|.val (.tuple<|av b)) (ab<|.val (bj g))=m7 w' v2 v3 v4 v5 (ab<|.val w) (ab<|.val (.tuple<|av b)) (ab<|.val (bj g))))) (by kernel_rfl)|false=>exact cR (an h<|an (rO (M8 hg) [aA.root]) (an (OQ hq [aA.root]) (⟨rfl,rfl,rfl⟩:Fl.rt (.val<|bj g)=.rt (.val<|bj g)/\[aA.root]=[aA.root]/\m7 w' v2 v3 v4 v5 (ab<|.val w) (ab<|.val (.tuple<|av b)) (ab<|.val (bj g))=m7 w' v2 v3 v4 v5 (ab<|.val w) (ab<|.val (.tuple<|av b)) (ab<|.val (bj g))))) (by kernel_rfl)
theorem s9(hg:g≠.nx)(h:b5 a8 k 60 [s.root] [.tuple<|av b] (.val<|bj g) [aA.root]):Sp k (mM w b::xs) s (eQ g) aA:=by
 cases g with
 |nx=>exact dk rfl hg|bk=>exact EY (q:=ae) hg (by rfl) h rfl|ct=>exact EY (q:=ae) hg (by rfl) h rfl|rt v=>exact EY (q:=ag) hg (by rfl) h rfl
section
def pN(x y:af S):ai->af V
 |0=>[mM (bO<|.int 1) x,mM .none y,mM (bO<|.int 2) [.fk ae]]
 |1=>[mM .none y,mM (bO<|.int 2) [.fk ae]]
 |_=>[mM (bO<|.int 2) [.fk ae]]
def RP(c:az)(n:ai)(b:af S):Prop:=∀s g t,bX c s->run b s=ab (g,t)->t.n<=90000->Rn n s b g t
end
theorem Lm(hk:2<=k):Sp k [mM w [.fk ae]] s .nx s:=
 s9 (g:=.bk) nofun (LU (n:=1) (λk hk=>NR rfl (Ky (j:=ae) k hk)) k hk)
theorem VX(iy:RP c n b)(gs:bX c s)(h:kI (run b s)=ab (g,t))(hn:t.n<=90000)(hk:n<=k)(h':∀s,run b aA=ab (.nx,s)->Sp k xs s .nx s)(e:aA=s):Sp k (mM w b::xs) s g t:=by
 subst e
 cases q:run b aA with
 |none=>rw[q] at h;cases h|some p=>
  cases p with|mk g' s'=>
  rw[q] at h
  cases g' with
  |nx=>cases h;exact Ll (iy _ _ _ gs q hn k hk) (h' _ q)|bk=>cases h;exact s9 (g:=.bk) nofun (iy _ _ _ gs q hn k hk)|ct=>cases h;exact s9 (g:=.ct) nofun (iy _ _ _ gs q hn k hk)|rt v=>cases h;exact s9 (g:=.rt v) nofun (iy _ _ _ gs q hn k hk)
theorem Lk(iy:RP c n b)(gs:bX c s)(h:kI (run b s)=ab (g,t))(hn:t.n<=90000)(hk:n<=k)(h2:2<=k):Sp k [mM w b,mM v [.fk ae]] s g t:=
 VX iy gs h hn hk (λ_ _=>Lm h2) rfl
theorem VV(gx:GB c x)(gy:GB c y)(ix:RP c n x)(iy:RP c n y)(gs:bX c s)(h:kI (fO (run x s)<|run y)=ab (g,t))(hn:t.n<=90000)(hk:n<=k)(h2:2<=k):Sp k (pN x y 0) s g t:=by
 cases q:run x s with
 |none=>rw[q] at h;cases h|some p=>
  cases p with|mk g' s'=>
  have kx:=gx s gs g' s' q
  rw[q] at h
  cases g' with
  |nx=>
   have h:kI (run y s')=ab (g,t):=h
   exact Ll (ix _ _ _ gs q (aj (Gr.sw (gy s' kx.1) g t h).2.2 hn) k hk) (Lk iy kx.1 h hn hk h2)
  |bk=>cases h;exact s9 (g:=.bk) nofun (ix _ _ _ gs q hn k hk)|ct=>cases h;exact s9 (g:=.ct) nofun (ix _ _ _ gs q hn k hk)|rt v=>cases h;exact s9 (g:=.rt v) nofun (ix _ _ _ gs q hn k hk)
theorem abE(hv:cu e=ag)(hx:bu 90000 v)(h:Ev (n+4) s e v aA)(c1:cD v (.int 1)=ae)(hS:∀k,n+4<=k->Sp k (pN x y 0) aA g t):ao (n+5) 63 [s.root] [aM<|.sw e x y] (.val<|bj g) [t.root]:=
 ao.ex rfl rfl rfl λk hk=>(hS k hk (aM<|.sw e x y) (ab<|.val v) (ab<|.val (.int 0)) (ab<|.val (.int 0)) (ab<|.val v) aw aw aw).elim λv6 q=>q.elim λv7 q=>q.elim λv8 q=>
  ⟨[.aK 1 (.val<|.str (hd<|ak e)),.au 0 ag,.call (.val v) [aA.root],.aK 1 (.val<|.str (hd<|ak e)),.au 0 ag,.bi 0 (.val<|.str (v).shown),.bi 0 (.val<|.str (iq 1).shown),.au 0 ae,.lp (.rt<|.val (bj g)) [t.root]<|m7 (aM<|.sw e x y) (ab<|.val v) (ab<|.val (.int 0)) (ab<|.val (.int 0)) (ab<|.val v) v6 v7 v8],cR (an (i0 e [s.root])<|an (iv hv [s.root]) (an (h k hk)<|an (i0 e [aA.root]) (an (iv hv [aA.root])<|an (eg hx) (an (eg (v:=.int 1)<|bJ rfl)<|an (iL c1 [aA.root]) (an q (rfl:ab (MV.val (bj g),[t.root])=ab (MV.val (bj g),[t.root])))))))<|by kernel_rfl⟩
theorem abD(hv:cu e=ag)(hx:bu 90000 v)(h:Ev (n+4) s e v aA)(c1:cD v (.int 1)=ag)(c2:cD v (.int 2)=ae)(hS:∀k,n+4<=k->Sp k (pN x y 2) aA g t):ao (n+5) 63 [s.root] [aM<|.sw e x y] (.val<|bj g) [t.root]:=
 ao.ex rfl rfl rfl λk hk=>(hS k hk (aM<|.sw e x y) (ab<|.val v) (ab<|.val (.int 2)) (ab<|.val (.int 2)) (ab<|.val v) aw aw aw).elim λv6 q=>q.elim λv7 q=>q.elim λv8 q=>
  ⟨[.aK 1 (.val<|.str (hd<|ak e)),.au 0 ag,.call (.val v) [aA.root],.aK 1 (.val<|.str (hd<|ak e)),.au 0 ag,.bi 0 (.val<|.str (v).shown),.bi 0 (.val<|.str (iq 1).shown),.au 0 ag,.aK 1 (.val<|.str (hd<|ak e)),.au 0 ag,.bi 0 (.val<|.str (v).shown),.bi 0 (.val<|.str (iq 2).shown),.au 0 ae,.lp (.rt<|.val (bj g)) [t.root]<|m7 (aM<|.sw e x y) (ab<|.val v) (ab<|.val (.int 2)) (ab<|.val (.int 2)) (ab<|.val v) v6 v7 v8],cR (an (i0 e [s.root])<|an (iv hv [s.root]) (an (h k hk)<|an (i0 e [aA.root]) (an (iv hv [aA.root])<|an (eg hx) (an (eg (v:=.int 1)<|bJ rfl)<|an (iL c1 [aA.root]) (an (i0 e [aA.root])<|an (iv hv [aA.root]) (an (eg hx)<|an (eg (v:=.int 2)<|bJ rfl) (an (iL c2 [aA.root])<|an q (rfl:ab (MV.val (bj g),[t.root])=ab (MV.val (bj g),[t.root])))))))))<|by kernel_rfl⟩
theorem abC(hv:cu e=ag)(hx:bu 90000 v)(h:Ev (n+4) s e v aA)(c1:cD v (.int 1)=ag)(c2:cD v (.int 2)=ag)(hS:∀k,n+4<=k->Sp k (pN x y 1) aA g t):ao (n+5) 63 [s.root] [aM<|.sw e x y] (.val<|bj g) [t.root]:=
 ao.ex rfl rfl rfl λk hk=>(hS k hk (aM<|.sw e x y) (ab<|.val v) (ab<|.val (.int 1)) (ab<|.val (.int 2)) (ab<|.val v) aw aw aw).elim λv6 q=>q.elim λv7 q=>q.elim λv8 q=>
  ⟨[.aK 1 (.val<|.str (hd<|ak e)),.au 0 ag,.call (.val v) [aA.root],.aK 1 (.val<|.str (hd<|ak e)),.au 0 ag,.bi 0 (.val<|.str (v).shown),.bi 0 (.val<|.str (iq 1).shown),.au 0 ag,.aK 1 (.val<|.str (hd<|ak e)),.au 0 ag,.bi 0 (.val<|.str (v).shown),.bi 0 (.val<|.str (iq 2).shown),.au 0 ag,.lp (.rt<|.val (bj g)) [t.root]<|m7 (aM<|.sw e x y) (ab<|.val v) (ab<|.val (.int 1)) (ab<|.val (.int 2)) (ab<|.val v) v6 v7 v8],cR (an (i0 e [s.root])<|an (iv hv [s.root]) (an (h k hk)<|an (i0 e [aA.root]) (an (iv hv [aA.root])<|an (eg hx) (an (eg (v:=.int 1)<|bJ rfl)<|an (iL c1 [aA.root]) (an (i0 e [aA.root])<|an (iv hv [aA.root]) (an (eg hx)<|an (eg (v:=.int 2)<|bJ rfl) (an (iL c2 [aA.root])<|an q (rfl:ab (MV.val (bj g),[t.root])=ab (MV.val (bj g),[t.root])))))))))<|by kernel_rfl⟩
theorem abB{p:aq}(hx:bu 90000 (s.get p))(f:b6 c s)(c1:cD (s.get p) (.int 1)=ae)(hS:∀k,n+4<=k->Sp k (pN x y 0) (s.rd p) g t):ao (n+5) 63 [s.root] [aM<|.sw (.var p) x y] (.val<|bj g) [t.root]:=
 ao.ex rfl rfl rfl λk hk=>(hS k hk (aM<|.sw (.var p) x y) (ab<|.val .none) (ab<|.val (.int 0)) (ab<|.val (.int 0)) (ab<|.val (s.get p)) aw aw aw).elim λv6 q=>q.elim λv7 q=>q.elim λv8 q=>
  ⟨[.call (.val<|s.get p) [(s.rd p).root],.bi 0 (.val<|.str (s.get p).shown),.bi 0 (.val<|.str (iq 1).shown),.au 0 ae,.lp (.rt<|.val (bj g)) [t.root]<|m7 (aM<|.sw (.var p) x y) (ab<|.val .none) (ab<|.val (.int 0)) (ab<|.val (.int 0)) (ab<|.val (s.get p)) v6 v7 v8],cR (an (lM p f<|cx hk)<|an (eg hx) (an (eg (v:=.int 1)<|bJ rfl)<|an (iL c1 [(s.rd p).root]) (an q (rfl:ab (MV.val (bj g),[t.root])=ab (MV.val (bj g),[t.root])))))<|by kernel_rfl⟩
theorem abA{p:aq}(hx:bu 90000 (s.get p))(f:b6 c s)(f':b6 c (s.rd p))(c1:cD (s.get p) (.int 1)=ag)(c2:cD (s.get p) (.int 2)=ae)(hS:∀k,n+4<=k->Sp k (pN x y 2) ((s.rd p).rd p) g t):ao (n+5) 63 [s.root] [aM<|.sw (.var p) x y] (.val<|bj g) [t.root]:=
 ao.ex rfl rfl rfl λk hk=>(hS k hk (aM<|.sw (.var p) x y) (ab<|.val .none) (ab<|.val (.int 2)) (ab<|.val (.int 2)) (ab<|.val (s.get p)) aw aw aw).elim λv6 q=>q.elim λv7 q=>q.elim λv8 q=>
  ⟨[.call (.val<|s.get p) [(s.rd p).root],.bi 0 (.val<|.str (s.get p).shown),.bi 0 (.val<|.str (iq 1).shown),.au 0 ag,.call (.val<|s.get p) [((s.rd p).rd p).root],.bi 0 (.val<|.str (s.get p).shown),.bi 0 (.val<|.str (iq 2).shown),.au 0 ae,.lp (.rt<|.val (bj g)) [t.root]<|m7 (aM<|.sw (.var p) x y) (ab<|.val .none) (ab<|.val (.int 2)) (ab<|.val (.int 2)) (ab<|.val (s.get p)) v6 v7 v8],cR (an (lM p f<|cx hk)<|an (eg hx) (an (eg (v:=.int 1)<|bJ rfl)<|an (iL c1 [(s.rd p).root]) (an (Ch f'<|cx hk)<|an (eg hx) (an (eg (v:=.int 2)<|bJ rfl)<|an (iL c2 [((s.rd p).rd p).root]) (an q (rfl:ab (MV.val (bj g),[t.root])=ab (MV.val (bj g),[t.root])))))))<|by kernel_rfl⟩
theorem abz{p:aq}(hx:bu 90000 (s.get p))(f:b6 c s)(f':b6 c (s.rd p))(c1:cD (s.get p) (.int 1)=ag)(c2:cD (s.get p) (.int 2)=ag)(hS:∀k,n+4<=k->Sp k (pN x y 1) ((s.rd p).rd p) g t):ao (n+5) 63 [s.root] [aM<|.sw (.var p) x y] (.val<|bj g) [t.root]:=
 ao.ex rfl rfl rfl λk hk=>(hS k hk (aM<|.sw (.var p) x y) (ab<|.val .none) (ab<|.val (.int 1)) (ab<|.val (.int 2)) (ab<|.val (s.get p)) aw aw aw).elim λv6 q=>q.elim λv7 q=>q.elim λv8 q=>
  ⟨[.call (.val<|s.get p) [(s.rd p).root],.bi 0 (.val<|.str (s.get p).shown),.bi 0 (.val<|.str (iq 1).shown),.au 0 ag,.call (.val<|s.get p) [((s.rd p).rd p).root],.bi 0 (.val<|.str (s.get p).shown),.bi 0 (.val<|.str (iq 2).shown),.au 0 ag,.lp (.rt<|.val (bj g)) [t.root]<|m7 (aM<|.sw (.var p) x y) (ab<|.val .none) (ab<|.val (.int 1)) (ab<|.val (.int 2)) (ab<|.val (s.get p)) v6 v7 v8],cR (an (lM p f<|cx hk)<|an (eg hx) (an (eg (v:=.int 1)<|bJ rfl)<|an (iL c1 [(s.rd p).root]) (an (Ch f'<|cx hk)<|an (eg hx) (an (eg (v:=.int 2)<|bJ rfl)<|an (iL c2 [((s.rd p).rd p).root]) (an q (rfl:ab (MV.val (bj g),[t.root])=ab (MV.val (bj g),[t.root])))))))<|by kernel_rfl⟩
end
section
def loB:af ST:=[
 .ite (.au .eq (.aK (.var 1)<|.lit (.int 0))<|.lit (.str wq)) [
  .ite (.au .eq (.var 2)<|.ah []) [.ret<|.lit .none] [],
  .nH (.aK (.var 0)<|.lit (.str BF)) (.lit<|.str ew) (.bw .nW (.var 2) [.lit<|.int 0])] [
  .ite (.cw ag [.au .eq (.aK (.var 1)<|.lit (.int 0)) (.lit<|.str nc),.var 3]) [
   .ite (.not<|.call 49 [.call 57 [.var 0,.ite (.au .eq (.aK (.var 1)<|.lit (.int 0))<|.lit (.str nc)) (.aK (.var 1)<|.lit (.int 1))<|.aK (.var 1) (.lit<|.int 2)]]) [.ret<|.lit .none] []] []],
 .aN 3 (.lit<|.bool ae),
 .nG [4,5] (.call 61 [.call 60 [.var 0,.ite (.au .eq (.aK (.var 1)<|.lit (.int 0))<|.lit (.str wt)) (.aK (.var 1)<|.lit (.int 1))<|.aK (.var 1) (.neg<|.lit (.int 1))]]),
 .ite (.var 4) [.ret<|.var 5] []]
def N1(k:ai)(rs:Rs)(vs:Vs)(os:Os)(K:az->Rs->Os->Prop):Prop:=wT (b5 a8 k) (dQ a8) (.lit<|.bool ae) rs vs os λ_=>K
def N2(k:ai)(rs:Rs)(vs:Vs)(os:Os)(K:Fl->Rs->Vs->Os->Prop):Prop:=dK (b5 a8 k) (dQ a8) loB rs vs os K
noncomputable def iA(j:ai)(w:V)(q:az)(v4 v5:aD MV):Vs:=[ab (.ref 0),ab (.val w),ab (.ref j),ab (.val<|.bool q),v4,v5]
def Wp(k:ai)(w:V)(q:az)(s:St)(g:Sg)(t:St):Prop:=∀(v4 v5:aD MV),∃(q':az)(EA Ez:aD MV)(n:ai)(os:Os),oG (N1 k) (N2 k) n [s.root,.ah []] (iA 1 w q v4 v5) os λfl rs vs _=>fl=.rt (.val<|bj g)/\rs=[t.root,.ah []]/\vs=iA 1 w q' EA Ez
def Fp(k:ai)(w:V)(q:az)(xs:af V)(s:St)(g:Sg)(t:St):Prop:=∀(v4 v5:aD MV),∃(q':az)(EA Ez:aD MV)(ys:af V)(n:ai)(os:Os),oG (N1 k) (N2 k) n [s.root,.ah [],.ah xs] (iA 2 w q v4 v5) os λfl rs vs _=>fl=.rt (.val<|bj g)/\rs=[t.root,.ah [],.ah ys]/\vs=iA 2 w q' EA Ez
end
section
variable{n m k:ai}{c:az}{e:E}{b x y r:af S}{v w a:V}{xs:af V}{s aA aS t:St}{g dw:Sg}
theorem tt(rs:Rs):fM (.val<|.bool ae) rs=ab ae:=rfl
theorem tg{q:az}(h:e7 g=q)(rs:Rs):fM (.val<|.bool (e7 g)) rs=ab q:=ay ab h
theorem Ue{q:az}(hv:bu m v)(hq:bF v=ag)(hk:4<=k)(h:b5 a8 k 57 [s.root] [ak e] (.val v) [aA.root]):Wp k (aM<|.cM e b) q s .nx aA:=λv4 v5=>
 ⟨q,v4,v5,1,[.tr 0 ae,.call (.val v) [aA.root],.call (.val<|.bool ag) []],cR (an (tt [s.root,.ah []])<|an h (an (gV hq hv hk) (⟨rfl,rfl,rfl⟩:Fl.rt (.val .none)=.rt (.val<|bj .nx)/\[aA.root,bP.ah []]=[aA.root,.ah []]/\iA 1 (aM<|.cM e b) q v4 v5=iA 1 (aM<|.cM e b) q v4 v5)))<|by kernel_rfl⟩
theorem Uc{q:az}(hv:bu m v)(hq:bF v=ae)(hk:4<=k)(h:b5 a8 k 57 [s.root] [ak e] (.val v) [aA.root])(h':b5 a8 k 60 [aA.root] [.tuple<|av b] (.val<|bj g) [aS.root])(hg:e7 g=ae):Wp k (aM<|.cM e b) q s (eQ g) aS:=λv4 v5=>
 ⟨ae,ab (.val<|.bool (e7 g)),ab (.val<|bj (eQ g)),1,[.tr 0 ae,.call (.val v) [aA.root],.call (.val<|.bool ae) [],.call (.val<|bj g) [aS.root],.call (.val<|oS g) [],.tr 0 ae],cR (an (tt [s.root,.ah []])<|an h (an (gV hq hv hk)<|an h' (an (rX g hk)<|an (tg hg [aS.root,.ah []]) (⟨rfl,rfl,rfl⟩:Fl.rt (.val<|bj (eQ g))=.rt (.val<|bj (eQ g))/\[aS.root,bP.ah []]=[aS.root,.ah []]/\iA 1 (aM<|.cM e b) ae (ab<|.val (.bool<|e7 g)) (ab<|.val (bj<|eQ g))=iA 1 (aM<|.cM e b) ae (ab<|.val (.bool<|e7 g)) (ab<|.val (bj<|eQ g))))))<|by kernel_rfl⟩
theorem Ud{q:az}(hv:bu m v)(hq:bF v=ae)(hk:4<=k)(h:b5 a8 k 57 [s.root] [ak e] (.val v) [aA.root])(h':b5 a8 k 60 [aA.root] [.tuple<|av b] (.val<|bj g) [aS.root])(hg:e7 g=ag)(H:Wp k (aM<|.cM e b) ae aS dw t):Wp k (aM<|.cM e b) q s dw t:=λv4 v5=>
 (H (ab<|.val (.bool<|e7 g))<|ab (.val<|bj (eQ g))).imp λ_=>.imp λ_=>.imp λ_=>.imp' (·+1) λ_=>.imp' ([.tr 0 ae,.call (.val v) [aA.root],.call (.val<|.bool ae) [],.call (.val<|bj g) [aS.root],.call (.val<|oS g) [],.tr 0 ag]++·) λ_ z=>cR (an (tt [s.root,.ah []])<|an h (an (gV hq hv hk)<|an h' (an (rX g hk)<|an (tg hg [aS.root,.ah []]) z))) (by kernel_rfl)
theorem aeq(hv:bu m v)(hq:bF v=ag)(hk:4<=k)(h:b5 a8 k 57 [s.root] [ak e] (.val v) [aA.root]):Wp k (aM<|.c9 b e) ae s .nx aA:=λv4 v5=>
 ⟨ae,v4,v5,1,[.tr 0 ae,.call (.val v) [aA.root],.call (.val<|.bool ag) []],cR (an (tt [s.root,.ah []])<|an h (an (gV hq hv hk) (⟨rfl,rfl,rfl⟩:Fl.rt (.val .none)=.rt (.val<|bj .nx)/\[aA.root,bP.ah []]=[aA.root,bP.ah []]/\iA 1 (aM<|.c9 b e) ae v4 v5=iA 1 (aM<|.c9 b e) ae v4 v5)))<|by kernel_rfl⟩
theorem aeo(hv:bu m v)(hq:bF v=ae)(hk:4<=k)(h:b5 a8 k 57 [s.root] [ak e] (.val v) [aA.root])(h':b5 a8 k 60 [aA.root] [.tuple<|av b] (.val<|bj g) [aS.root])(hg:e7 g=ae):Wp k (aM<|.c9 b e) ae s (eQ g) aS:=λv4 v5=>
 ⟨ae,(ab<|.val (.bool<|e7 g)),(ab<|.val (bj<|eQ g)),1,[.tr 0 ae,.call (.val v) [aA.root],.call (.val<|.bool ae) [],.call (.val<|bj g) [aS.root],.call (.val<|oS g) [],.tr 0 ae],cR (an (tt [s.root,.ah []])<|an h (an (gV hq hv hk)<|an h' (an (rX g hk)<|an (tg hg [aS.root,.ah []]) (⟨rfl,rfl,rfl⟩:Fl.rt (.val<|bj (eQ g))=.rt (.val<|bj (eQ g))/\[aS.root,bP.ah []]=[aS.root,bP.ah []]/\iA 1 (aM<|.c9 b e) ae (ab<|.val (.bool<|e7 g)) (ab<|.val (bj<|eQ g))=iA 1 (aM<|.c9 b e) ae (ab<|.val (.bool<|e7 g)) (ab<|.val (bj<|eQ g))))))<|by kernel_rfl⟩
theorem aep(hv:bu m v)(hq:bF v=ae)(hk:4<=k)(h:b5 a8 k 57 [s.root] [ak e] (.val v) [aA.root])(h':b5 a8 k 60 [aA.root] [.tuple<|av b] (.val<|bj g) [aS.root])(hg:e7 g=ag)(H:Wp k (aM<|.c9 b e) ae aS dw t):Wp k (aM<|.c9 b e) ae s dw t:=λv4 v5=>
 (H (ab<|.val (.bool<|e7 g))<|ab (.val<|bj (eQ g))).imp λ_=>.imp λ_=>.imp λ_=>.imp' (·+1) λ_=>.imp' ([.tr 0 ae,.call (.val v) [aA.root],.call (.val<|.bool ae) [],.call (.val<|bj g) [aS.root],.call (.val<|oS g) [],.tr 0 ag]++·) λ_ z=>cR (an (tt [s.root,.ah []])<|an h (an (gV hq hv hk)<|an h' (an (rX g hk)<|an (tg hg [aS.root,.ah []]) z))) (by kernel_rfl)
theorem aeu(hk:4<=k)(h':b5 a8 k 60 [s.root] [.tuple<|av b] (.val<|bj g) [aS.root])(hg:e7 g=ae):Wp k (aM<|.c9 b e) ag s (eQ g) aS:=λv4 v5=>
 ⟨ae,(ab<|.val (.bool<|e7 g)),(ab<|.val (bj<|eQ g)),1,[.tr 0 ae,.call (.val<|bj g) [aS.root],.call (.val<|oS g) [],.tr 0 ae],cR (an (tt [s.root,.ah []])<|an h' (an (rX g hk)<|an (tg hg [aS.root,.ah []]) (⟨rfl,rfl,rfl⟩:Fl.rt (.val<|bj (eQ g))=.rt (.val<|bj (eQ g))/\[aS.root,bP.ah []]=[aS.root,bP.ah []]/\iA 1 (aM<|.c9 b e) ae (ab<|.val (.bool<|e7 g)) (ab<|.val (bj<|eQ g))=iA 1 (aM<|.c9 b e) ae (ab<|.val (.bool<|e7 g)) (ab<|.val (bj<|eQ g)))))<|by kernel_rfl⟩
theorem aev(hk:4<=k)(h':b5 a8 k 60 [s.root] [.tuple<|av b] (.val<|bj g) [aS.root])(hg:e7 g=ag)(H:Wp k (aM<|.c9 b e) ae aS dw t):Wp k (aM<|.c9 b e) ag s dw t:=λv4 v5=>
 (H (ab<|.val (.bool<|e7 g))<|ab (.val<|bj (eQ g))).imp λ_=>.imp λ_=>.imp λ_=>.imp' (·+1) λ_=>.imp' ([.tr 0 ae,.call (.val<|bj g) [aS.root],.call (.val<|oS g) [],.tr 0 ag]++·) λ_ z=>cR (an (tt [s.root,.ah []])<|an h' (an (rX g hk)<|an (tg hg [aS.root,.ah []]) z)) (by kernel_rfl)
theorem aaH(r:bP):cv .eq (.ref 2) (.own<|.ah []) [r,.ah [],.ah []]=ab ae:=rfl
theorem NP(r:bP):cv .eq (.ref 2) (.own<|.ah []) [r,.ah [],.ah<|a::xs]=ab ag:=
 (a9 (aj (u3 _ _)<|show jC (.list [])<=100 by decide):ny (.list<|a::xs) (.list [])=ab _).trans rfl
theorem MG(r:bP)(h:xs.length<=4):iQ .nW (.ref 2) [.val<|.int 0] [r,.ah [],.ah<|a::xs]=ab (.val a,[r,.ah [],.ah xs]):=
 (a9 ⟨aj (bG h) aa,ajD 0⟩:iQ .nW (.ref 2) [.val<|.int 0] [r,.ah [],.ah<|a::xs]=_)
theorem adr{q:az}:Fp k (aM<|.fe e b) q [] s .nx s:=λv4 v5=>
 ⟨q,v4,v5,[],1,[.tr 0 ae,.au 1 ae],cR (an (tt [s.root,.ah [],.ah []])<|an (aaH s.root) (⟨rfl,rfl,rfl⟩:Fl.rt (.val .none)=.rt (.val<|bj .nx)/\[s.root,bP.ah [],bP.ah []]=[s.root,bP.ah [],bP.ah []]/\iA 2 (aM<|.fe e b) q v4 v5=iA 2 (aM<|.fe e b) q v4 v5))<|by kernel_rfl⟩
theorem adp{q:az}(hk:4<=k)(hx:xs.length<=4)(f:b6 c s)(h':b5 a8 k 60 [(s.bI ew a).root] [.tuple<|av b] (.val<|bj g) [aS.root])(hg:e7 g=ae):Fp k (aM<|.fe e b) q (a::xs) s (eQ g) aS:=λv4 v5=>
 ⟨ae,(ab<|.val (.bool<|e7 g)),(ab<|.val (bj<|eQ g)),xs,1,[.tr 0 ae,.au 1 ag,.bw 0 (.val a) [s.root,.ah [],.ah xs],.set 0 [(s.bI ew a).root,.ah [],.ah xs],.call (.val<|bj g) [aS.root],.call (.val<|oS g) [],.tr 0 ae],cR (an (tt [s.root,.ah [],.ah<|a::xs])<|an (NP (a:=a) (xs:=xs) s.root) (an (MG (a:=a) s.root hx)<|an (tM f.vars ew a [.ah [],.ah xs]) (an h'<|an (rX g hk) (an (tg hg [aS.root,.ah [],.ah xs]) (⟨rfl,rfl,rfl⟩:Fl.rt (.val<|bj (eQ g))=.rt (.val<|bj (eQ g))/\[aS.root,bP.ah [],bP.ah xs]=[aS.root,bP.ah [],bP.ah xs]/\iA 2 (aM<|.fe e b) ae (ab<|.val (.bool<|e7 g)) (ab<|.val (bj<|eQ g))=iA 2 (aM<|.fe e b) ae (ab<|.val (.bool<|e7 g)) (ab<|.val (bj<|eQ g)))))))<|by kernel_rfl⟩
theorem adq{q:az}(hk:4<=k)(hx:xs.length<=4)(f:b6 c s)(h':b5 a8 k 60 [(s.bI ew a).root] [.tuple<|av b] (.val<|bj g) [aS.root])(hg:e7 g=ag)(H:Fp k (aM<|.fe e b) ae xs aS dw t):Fp k (aM<|.fe e b) q (a::xs) s dw t:=λv4 v5=>
 (H (ab<|.val (.bool<|e7 g))<|ab (.val<|bj (eQ g))).imp λ_=>.imp λ_=>.imp λ_=>.imp λ_=>.imp' (·+1) λ_=>.imp' ([.tr 0 ae,.au 1 ag,.bw 0 (.val a) [s.root,.ah [],.ah xs],.set 0 [(s.bI ew a).root,.ah [],.ah xs],.call (.val<|bj g) [aS.root],.call (.val<|oS g) [],.tr 0 ag]++·) λ_ z=>cR (an (tt [s.root,.ah [],.ah<|a::xs])<|an (NP (a:=a) (xs:=xs) s.root) (an (MG (a:=a) s.root hx)<|an (tM f.vars ew a [.ah [],.ah xs]) (an h'<|an (rX g hk) (an (tg hg [aS.root,.ah [],.ah xs]) z)))) (by kernel_rfl)
theorem TB(h:∀k,n+4<=k->Wp k (aM<|.cM e b) ag s g t):Ex (n+6) s (.cM e b) g t:=
 ao.go (n:=n+5) [.call (.val<|bj g) [t.root]] (λk hk z=>an ((ao.ex (n:=n+4) rfl rfl rfl λk hk=>(h k hk aw aw).elim λq' z=>z.elim λv4 z=>z.elim λv5 z=>
  ⟨[.lp (.rt<|.val (bj g)) [t.root,.ah []]<|iA 1 (aM<|.cM e b) q' v4 v5],cR (an z (rfl:ab (MV.val (bj g),[t.root])=ab (MV.val (bj g),[t.root])))<|by kernel_rfl⟩:ao (n+5) 64 [s.root] [aM<|.cM e b] (.val<|bj g) [t.root]) k hk) z)
theorem TV(h:∀k,n+4<=k->Wp k (aM<|.c9 b e) ag s g t):Ex (n+6) s (.c9 b e) g t:=
 ao.go (n:=n+5) [.call (.val<|bj g) [t.root]] (λk hk z=>an ((ao.ex (n:=n+4) rfl rfl rfl λk hk=>(h k hk aw aw).elim λq' z=>z.elim λv4 z=>z.elim λv5 z=>
  ⟨[.lp (.rt<|.val (bj g)) [t.root,.ah []]<|iA 1 (aM<|.c9 b e) q' v4 v5],cR (an z (rfl:ab (MV.val (bj g),[t.root])=ab (MV.val (bj g),[t.root])))<|by kernel_rfl⟩:ao (n+5) 64 [s.root] [aM<|.c9 b e] (.val<|bj g) [t.root]) k hk) z)
theorem TP(hx:xs.length<=4)(hv:Ev (n+4) s e (.tuple xs) aA)(h:∀k,n+4<=k->Fp k (aM<|.fe e b) ag xs aA g t):Ex (n+6) s (.fe e b) g t:=
 ao.go (n:=n+5) [.call (.val<|bj g) [t.root]] (λk hk z=>an ((ao.ex (n:=n+4) rfl rfl rfl λk hk=>(h k hk aw aw).elim λq' z=>z.elim λv4 z=>z.elim λv5 z=>z.elim λys z=>
  ⟨[.call (.val<|.tuple xs) [aA.root],.bi 0 (.own<|.ah xs),.lp (.rt<|.val (bj g)) [t.root,.ah [],.ah ys]<|iA 2 (aM<|.fe e b) q' v4 v5],cR (an (hv k hk)<|an (Gh<|aj hx aa) (an z (rfl:ab (MV.val (bj g),[t.root])=ab (MV.val (bj g),[t.root]))))<|by kernel_rfl⟩:ao (n+5) 64 [s.root] [aM<|.fe e b] (.val<|bj g) [t.root]) k hk) z)
theorem TF(h:ao n 63 [s.root] [aM<|.sw e x y] (.val<|bj g) [t.root]):Ex (n+1) s (.sw e x y) g t:=
 ao.go [.call (.val<|bj g) [t.root]] λk hk z=>an (h k hk) z
end
theorem BQ{x:aD (Sg×St)}{k:St->aD (Sg×St)}{g:Sg}{t:St}(h:gN x k=ab (g,t)):∃g' s',x=ab (g',s')/\((e7 g'=ae/\eQ g'=g/\s'=t)\/(e7 g'=ag/\k s'=ab (g,t))):=by
 cases x with
 |none=>cases h|some p=>
  refine⟨p.1,p.2,rfl,?_⟩
  cases p with|mk g' s'=>
  cases g' with
  |nx=>exact .inr ⟨rfl,h⟩|ct=>exact .inr ⟨rfl,h⟩|bk=>cases h;exact .inl ⟨rfl,rfl,rfl⟩|rt v=>cases h;exact .inl ⟨rfl,rfl,rfl⟩
theorem LI{x:aD (Sg×St)}{k:St->aD (Sg×St)}{g:Sg}{t:St}(h:fO x k=ab (g,t)):∃g' s',x=ab (g',s')/\((g'=.nx/\k s'=ab (g,t))\/(dS (bj g')=ag/\g'=g/\s'=t)):=by
 cases x with
 |none=>cases h|some p=>
  refine⟨p.1,p.2,rfl,?_⟩
  cases p with|mk g' s'=>
  cases g' with
  |nx=>exact .inl ⟨rfl,h⟩|_=>cases h;exact .inr ⟨rfl,rfl,rfl⟩
theorem KN{x:aD (Sg×St)}{k:St->aD (Sg×St)}{g:Sg}{t:St}(h:sX x k=ab (g,t)):∃dw aA gM,x=ab (dw,aA)/\k aA=ab (gM,t)/\MO dw gM=g:=by
 cases x with
 |none=>cases h|some p=>
  have h:zG p.1 (k p.2)=ab (g,t):=h
  refine⟨p.1,p.2,?_⟩
  cases q:k p.2 with
  |none=>rw[q] at h;cases h|some r=>
   rw[q] at h
   cases r with|mk gM aS=>
   cases gM<;>(cases h;exact⟨_,rfl,rfl,rfl⟩)
section
variable{n k h₀:ai}{c:az}{e:E}{b:af S}
theorem Gj{W:St->Sg->St->Prop}(oe:aL c h₀ e)(gb:GB c b)(E:∀s,bX c s->bF (ev e s).1=ag->(ev e s).2.n<=90000->W s .nx (ev e s).2)
  (T:∀s g t,bX c s->bF (ev e s).1=ae->(ev e s).2.n<=90000->run b (ev e s).2=ab (g,t)->t.n<=90000->e7 g=ae->W s (eQ g) t)
  (G:∀s g s' g' t,bX c s->bF (ev e s).1=ae->(ev e s).2.n<=90000->run b (ev e s).2=ab (g,s')->s'.n<=90000->e7 g=ag->W s' g' t->W s g' t):
  ∀j s g t,bX c s->ja (fB e) (run b) j s=ab (g,t)->t.n<=90000->W s g t
 |0,_,_,_,_,h,_=>nomatch h|j+1,s,g,t,gs,h,hn=>by
  have ke:=cX oe s gs
  have h:(if bF (ev e s).1 then gN (run b (ev e s).2) (ja (fB e) (run b) j) else ab (.nx,(ev e s).2))=ab (g,t):=h
  cases hq:bF (ev e s).1 with
  |false=>rw[hq] at h;cases h;exact E s gs hq hn|true=>
   rw[hq] at h
   exact(BQ h).elim λg' z=>z.elim λs' z=>have kb:=gb _ ke.g g' s' z.1
    z.2.elim (λz'=>z'.2.1▸z'.2.2▸have hs:s'.n<=90000:=z'.2.2▸hn;T s g' s' gs hq (aj kb.2.2 hs) z.1 hs z'.1)
     λz'=>have hs:=aj (Gr.nZ (sW oe) gb j s' kb.1 g t z'.2).2.2 hn;G s g' s' g t gs hq (aj kb.2.2 hs) z.1 hs z'.1 (Gj oe gb E T G j s' g t kb.1 z'.2 hn)
theorem PH(gb:GB c b)(ib:RP c n b)(hk:n<=k)(h4:4<=k):∀xs s q g t,bX c s->(∀x∈xs,dr s.n x)->xs.length<=4->mF (run b) xs s=ab (g,t)->t.n<=90000->Fp k (aM<|.fe e b) q xs s g t
 |[],_,_,_,_,_,_,_,h,_=>by cases h;exact adr
 |a::xs,s,q,g,t,gs,hf,hl,h,hn=>by
  have h:gN (run b<|s.bI ew a) (mF (run b) xs)=ab (g,t):=h
  have gp:=gs.bI (x:=ew) .c (hf a<|gZ ..).ok
  have hl:=aj (aR xs.length) hl
  exact(BQ h).elim λg' z=>z.elim λs' z=>have kb:=gb _ gp g' s' z.1
   have Pg:=λx hx=>(hf x<|iE _ hx).aU kb.2.2
   z.2.elim (λz'=>z'.2.1▸z'.2.2▸have hs:s'.n<=90000:=z'.2.2▸hn;adp h4 hl ⟨gs,aj kb.2.2 hs⟩ (ib _ g' s' gp z.1 hs k hk) z'.1)
    λz'=>have hs:=aj (Gr.for gb xs s' Pg kb.1 g t z'.2).2.2 hn;adq h4 hl ⟨gs,aj kb.2.2 hs⟩ (ib _ g' s' gp z.1 hs k hk) z'.1 (PH gb ib hk h4 xs s' ae g t kb.1 Pg hl z'.2 hn)
end
def XP(c:az)(n:ai)(x:S):Prop:=∀s g t,bX c s->g6 x s=ab (g,t)->t.n<=90000->Ex n s x g t
theorem ZS(h:ai){m:ai}(hm:m<=8):m<=3*h+8:=aj hm (bY 8<|3*h)
theorem wU{c:az}{h k:ai}{e:E}(oe:aL c h e)(hk:3*h+6<=k){s:St}(gs:bX c s)(hn:(ev e s).2.n<=90000):b5 a8 k 57 [s.root] [ak e] (.val (ev e s).1) [(ev e s).2.root]:=jM oe s gs hn k hk
theorem OU{c:az}{h:ai}{p:az}{o:af S}(io:RP c (3*h+6) o)(ho:p=ag->o=[]){s:St}{g:Sg}{t:St}(gs:bX c s)(q:run o s=ab (g,t))(hn:t.n<=90000):El (3*h+6) p s o g t:=by
 cases p with
 |true=>exact io s g t gs q hn|false=>rw[ho rfl] at q;cases q;exact⟨rfl,rfl⟩
section
variable{c:az}{h:ai}{e e':E}{b b' o x y:af S}{p:az}
theorem XQ(oe:aL c h e):XP c (3*(h+1)+5) (.ex e):=λs g t gs q hn=>by
 have q:ab (Sg.nx,if cu e then s else(ev e s).2)=ab (g,t):=q
 cases hv:cu e with
 |true=>rw[hv] at q;cases q;exact(TS hv).aU (ZS h aa)|false=>rw[hv] at q;cases q;exact(TQ hv<|jM oe s gs hn).s1
theorem XT(oe:aL c h e):XP c (3*(h+1)+5) (.dT e):=λs g t gs q hn=>by
 cases q
 have hn:=aj (aR _) hn
 have k:=cX oe s gs
 exact(TU ⟨k.g,hn⟩ k.v<|jM oe s gs hn).s1
theorem XS(oe:aL c h e)(ey:aL c h e'):XP c (3*(h+1)+5) (.ig e e'):=λs g t gs q hn=>by
 cases q
 have hn:=aj (aR _) hn
 have k:=cX oe s gs
 have z:=zJ oe gs
 have k':=cX ey _ z.1
 have h1:=aj k'.n hn
 have h2:=aj (aR _) h1
 exact(TT ⟨k.g,h2⟩ ⟨k'.g,hn⟩ k.v k'.v (jM oe s gs h2)<|jM ey _ z.1 hn).s1
theorem XK(oe:aL c h e)(ib:RP c (3*h+6) b)(io:RP c (3*h+6) o)(gb:GB c b)(go:GB c o)(ho:p=ag->o=[]):XP c (3*(h+1)+5) (.b9 e b o p):=λs g t gs q hn=>by
 have k:=cX oe s gs
 have q:(if bF (ev e s).1 then run b (ev e s).2 else run o (ev e s).2)=ab (g,t):=q
 cases hq:bF (ev e s).1 with
 |true=>rw[hq] at q;exact(TO k.v hq (jM oe s gs<|aj (gb _ k.g g t q).2.2 hn)<|ib _ g t k.g q hn).s1|false=>rw[hq] at q;exact(TN k.v hq (jM oe s gs<|aj (go _ k.g g t q).2.2 hn)<|OU io ho k.g q hn).s1
theorem XJ(oe:aL c h e)(ey:aL c h e')(ib:RP c (3*h+6) b)(cV:RP c (3*h+6) b')(io:RP c (3*h+6) o)(gb:GB c b)(uB:GB c b')(go:GB c o)(ho:p=ag->o=[]):XP c (3*(h+1)+5) (.dH e b e' b' o p):=λs g t gs q hn=>by
 have k:=cX oe s gs
 have k':=cX ey _ k.g
 have q:(if bF (ev e s).1 then run b (ev e s).2 else if bF (ev e' (ev e s).2).1 then run b' (ev e' (ev e s).2).2 else run o (ev e' (ev e s).2).2)=ab (g,t):=q
 cases hq:bF (ev e s).1 with
 |true=>rw[hq] at q;exact(TK k.v hq (jM oe s gs<|aj (gb _ k.g g t q).2.2 hn)<|ib _ g t k.g q hn).s1|false=>
  rw[hq] at q
  have q:(if bF (ev e' (ev e s).2).1 then run b' (ev e' (ev e s).2).2 else run o (ev e' (ev e s).2).2)=ab (g,t):=q
  cases qw:bF (ev e' (ev e s).2).1 with
  |true=>
   rw[qw] at q
   have n':=aj (uB _ k'.g g t q).2.2 hn
   exact(TJ (k.v.aU k'.n) hq k'.v qw (jM oe s gs<|aj k'.n n') (jM ey _ k.g n')<|cV _ g t k'.g q hn).s1
  |false=>
   rw[qw] at q
   have n':=aj (go _ k'.g g t q).2.2 hn
   exact(TI (k.v.aU k'.n) hq k'.v qw (jM oe s gs<|aj k'.n n') (jM ey _ k.g n')<|OU io ho k'.g q hn).s1
theorem Xu(oe:aL c h e)(ib:RP c (3*h+6) b)(gb:GB c b):XP c (3*(h+1)+5) (.cM e b):=λs g t gs q hn=>
 TB λk hk=>have k4:=cx hk
  Gj (W:=λs g t=>∀q,Wp k (aM<|.cM e b) q s g t) oe gb (λs gs hq hn q=>Ue (cX oe s gs).v hq k4<|wU oe hk gs hn)
   (λs g t gs hq hn hr ht hg q=>have z:=cX oe s gs;Uc z.v hq k4 (wU oe hk gs hn) (ib _ g t z.g hr ht k hk) hg)
   (λs g s' g' t gs hq hn hr ht hg H q=>have z:=cX oe s gs;Ud z.v hq k4 (wU oe hk gs hn) (ib _ g s' z.g hr ht k hk) hg (H ae)) yI s g t gs q hn ag
theorem XU(oe:aL c h e)(ib:RP c (3*h+6) b)(gb:GB c b):XP c (3*(h+1)+5) (.c9 b e):=λs g t gs q hn=>
 TV λk hk=>have k4:=cx hk
  have L:=Gj (W:=λs g t=>Wp k (aM<|.c9 b e) ae s g t) oe gb (λs gs hq hn=>aeq (cX oe s gs).v hq k4<|wU oe hk gs hn)
   (λs g t gs hq hn hr ht hg=>have z:=cX oe s gs;aeo z.v hq k4 (wU oe hk gs hn) (ib _ g t z.g hr ht k hk) hg)
   (λs g s' g' t gs hq hn hr ht hg H=>have z:=cX oe s gs;aep z.v hq k4 (wU oe hk gs hn) (ib _ g s' z.g hr ht k hk) hg H) 3
  (BQ<|show gN (run b s) (ja (fB e) (run b) 3)=ab (g,t) from q).elim λg' z=>z.elim λs' z=>have kb:=gb _ gs g' s' z.1
   z.2.elim (λz'=>z'.2.1▸z'.2.2▸aeu k4 (ib s g' s' gs z.1 (z'.2.2▸hn) k hk) z'.1)
    λz'=>aev k4 (ib s g' s' gs z.1 (aj (Gr.nZ (sW oe) gb 3 s' kb.1 g t z'.2).2.2 hn) k hk) z'.1 (L s' g t kb.1 z'.2 hn)
theorem XN{sa sb:az}{a d:E}(oe:aL c h (.bi (.bS sa sb) a d))(ib:RP c (3*h+6) b)(gb:GB c b):XP c (3*(h+1)+5) (.fe (.bi (.bS sa sb) a d) b):=λs g t gs q hn=>
 have k:=cX oe s gs
 have q:mF (run b) (t9 (ev (.bi (.bS sa sb) a d) s).1) (ev (.bi (.bS sa sb) a d) s).2=ab (g,t):=q
 have i:=GK k.v
 have z:=jM oe s gs (aj (Gr.for gb _ _ i.2 k.g g t q).2.2 hn)
 TP i.1 z λk' hk=>PH gb ib hk (cx hk) _ _ ag g t k.g i.2 i.1 q hn
theorem Xx(oe:aL c h e)(ix:RP c (3*h+6) x)(iy:RP c (3*h+6) y)(gx:GB c x)(gy:GB c y):XP c (3*(h+1)+5) (.sw e x y):=λs g t gs q hn=>by
 have bU:∀{k},3*h+2+4<=k->2<=k:=λhk=>aj aa (cx hk)
 have z:=EO oe gs
 have all:(ej e s).2.n<=t.n/\∀k,3*h+2+4<=k->Sp k (pN x y (ej e s).1) (ej e s).2 g t:=by
  have q:kI (if(ej e s).1=0 then fO (run x (ej e s).2) (run y) else if(ej e s).1=1 then run y (ej e s).2 else ab (.nx,(ej e s).2))=ab (g,t):=q
  generalize ej e s=w at q z
  cases w with|mk i s'=>
  match i,q with
  |0,q=>exact⟨(((gx _ z.1).seq gy).sw g t q).2.2,λk hk=>VV gx gy ix iy z.1 q hn hk<|bU hk⟩|1,q=>exact⟨((gy _ z.1).sw g t q).2.2,λk hk=>Lk iy z.1 q hn hk<|bU hk⟩|i+2,q=>cases q;exact⟨aF _,λk hk=>Lm<|bU hk⟩
 refine TF ?_
 have hs:=aj all.1 hn
 let P:ai×St->Prop:=λw=>(∀k,3*h+2+4<=k->Sp k (pN x y w.1) w.2 g t)->w.2.n<=90000->ao (3*h+2+5) 63 [s.root] [aM<|.sw e x y] (.val<|bj g) [t.root]
 suffices key:P (ej e s) from key all.2 hs
 clear all hs z q
 cases hv:cu e with
 |true=>
  have hx:=m4 oe hv
  have hv:=rZ hv
  generalize d5 e=u at hx hv
  subst hv
  have gr:=gs.rd hx
  have vx:=λ{m}(h:m<=90000)(h':s.n<=m)=>(gs.get u).aU (aj h' h)
  show P (if cD (s.get u) (.int 1) then(0,s.rd u) else if cD (s.get u) (.int 2) then(2,(s.rd u).rd u) else(1,(s.rd u).rd u))
  exact aO P (λc1 a hs=>abB (vx hs<|gm s u) ⟨gs,aj (gm s u) hs⟩ c1 a) λc1=>aO P
   (λc2 a hs=>have h1:=aj (gm _ u) hs;abA (vx h1<|gm s u) ⟨gs,aj (gm s u) h1⟩ ⟨gr,h1⟩ (cz.mpr c1) c2 a)
   λc2 a hs=>have h1:=aj (gm _ u) hs;abz (vx h1<|gm s u) ⟨gs,aj (gm s u) h1⟩ ⟨gr,h1⟩ (cz.mpr c1) (cz.mpr c2) a
 |false=>
  have k:=cX oe s gs
  unfold ej
  rw[hv,br ed]
  exact aO (λi=>P (i,(ev e s).2)) (λc1 a hs=>abE hv (k.v.aU hs) (jM oe s gs hs) c1 a) λc1=>aO (λi=>P (i,(ev e s).2))
   (λc2 a hs=>abD hv (k.v.aU hs) (jM oe s gs hs) (cz.mpr c1) c2 a)
   λc2 a hs=>abC hv (k.v.aU hs) (jM oe s gs hs) (cz.mpr c1) (cz.mpr c2) a
theorem Xw(ib:RP c (3*h+6) b)(cV:RP c (3*h+6) b')(gb:GB c b)(uB:GB c b'):XP c (3*(h+1)+5) (.tr b b'):=λs g t gs q hn=>
 (KN<|show sX (run b s) (run b')=ab (g,t) from q).elim λdw z=>z.elim λaA z=>z.elim λgM z=>have kb:=gb s gs dw aA z.1
  z.2.2▸(TC (ib s dw aA gs z.1<|aj (uB _ kb.1 gM t z.2.1).2.2 hn)<|cV _ gM t kb.1 z.2.1 hn).s1
end
def LP(c:az)(n:ai)(b:af S):Prop:=∀s g t,bX c s->run b s=ab (g,t)->t.n<=90000->∀k,n<=k->Lp k b s g t
theorem LP.rp{c:az}{n:ai}{b:af S}(h:LP c n b):RP c (n+1) b:=λs g t gs q hn=>LU (h s g t gs q hn)
theorem LV{c:az}{h:ai}{x:S}(o:fH c h x)(s:St)(g:bX c s):Gr c s.n (g6 x s):=
 (show fO (g6 x s) (run [])=g6 x s by
  cases g6 x s with
  |none=>rfl|some p=>cases p with|mk g t=>cases g<;>rfl)▸iw (.cons o .nil λ_=>bQ 3) s g
theorem aaM{c:az}{n h h':ai}{x:S}{r:af S}(ox:fH c h x)(or:bR c h' r)(ix:XP c n x)(ir:LP c n r):LP c n (x::r):=λs g t gs q hn k hk=>
 (LI<|show fO (g6 x s) (run r)=ab (g,t) from q).elim λg' z=>z.elim λs' z=>have kx:=LV ox s gs g' s' z.1
  z.2.elim (λz'=>by
    have z1:=z.1
    rw[z'.1] at z1
    exact aaL (ix s .nx s' gs z1 (aj (iw or _ kx.1 g t z'.2).2.2 hn) k hk)<|ir s' g t kx.1 z'.2 hn k hk)
   λz'=>z'.2.1▸z'.2.2▸NR z'.1 (ix s g' s' gs z.1 (z'.2.2▸hn) k hk)
theorem XA{c:az}{h:ai}{b:af S}(o:bR c h b):LP c (3*h+5) b:=by
 refine bR.rec (motive_1:=λh x _=>XP c (3*h+5) x) (motive_2:=λh b _=>LP c (3*h+5) b) ?_ ?_ ?_ ?_ ?_ ?_ ?_ ?_ ?_ ?_ ?_ ?_ ?_ ?_ ?_ ?_ o
 ·exactλoe=>XQ oe
 ·exactλoe=>XT oe
 ·exactλoe ey=>XS oe ey
 ·exactλ{h k} s g t gs q hn=>by cases q;exact Ky.aU (aj aa<|bY 5 (3*h))
 ·exactλ{h} s g t gs q hn=>by cases q;exact TG.aU (aj aa<|bY 5 (3*h))
 ·exactλoe s g t gs q hn=>by cases q;exact(TH<|jM oe s gs hn).s1
 ·exactλ_ ib s g t gs q hn=>(TX<|ib.rp s g t gs q hn).s1
 ·exactλoe ob oo ho ib io=>XK oe ib.rp io.rp (iw ob) (iw oo) ho
 ·exactλoe ob ey fX oo ho ib cV io=>XJ oe ey ib.rp cV.rp io.rp (iw ob) (iw fX) (iw oo) ho
 ·exactλoe ob ib=>Xu oe ib.rp (iw ob)
 ·exactλoe ob ib=>XU oe ib.rp (iw ob)
 ·exactλoe ob ib=>XN oe ib.rp (iw ob)
 ·exactλoe ox oy ix iy=>Xx oe ix.rp iy.rp (iw ox) (iw oy)
 ·exactλob fX ib cV=>Xw ib.rp cV.rp (iw ob) (iw fX)
 ·exactλs g t gs q hn k hk=>by cases q;exact aaK
 ·exactλox or _ ix ir=>aaM ox or ix ir
theorem XB{c:az}{h:ai}{b:af S}(o:bR c h b):RP c (3*h+6) b:=(XA o).rp
section
def nu(x:aq):aq:=⟨(fj x.cps.toList aw<|ab 1).toArray⟩
def fu(x:aq):az:=dM (nu x) pS
def lF:E->az
 | .lit _=>ae| .var x=>dM x oN||fu x|_=>ag
mutual
noncomputable def YS:S->az
 | .ex e=>Y e| .dT a=>Y a| .ig a b=>Y a||Y b| .fk _=>ag| .jK=>ag| .ret e=>Y e| .gO b=>YB b| .b9 c b o _=>Y c||(YB b||YB o)| .dH c b c' b' o _=>(Y c||YB b)||((Y c'||YB b')||YB o)| .cM c b=>Y c||YB b| .c9 b c=>YB b||Y c| .fe w b=>Y w||YB b| .sw c x y=>Y c||(YB x||YB y)| .tr b f=>YB b||YB f
noncomputable def YB:af S->az
 |[]=>ag|x::r=>YS x||YB r
end
structure H where
 e:E
 n:ai
 o:af S
noncomputable def cB(t:aq)(x:E):S:=.ex (.un (.aN t) x)
def keep(late:az)(h:H):H:=if lF h.e||(late&&cu h.e) then h else⟨.var (aG<|h.n+1),h.n+1,h.o++[cB (aG<|h.n+1) h.e]⟩
def kH(k:ai)(h:H):H:=⟨.var (aG k),h.n,h.o++[cB (aG k) h.e]⟩
def pr(f:E->E->E)(late yb:az)(b:E)(ha:H)(hb:ai->H):H:=
 if yb then⟨f (keep late ha).e (hb (keep late ha).n).e,(hb (keep late ha).n).n,(keep late ha).o++(hb (keep late ha).n).o⟩ else⟨f ha.e b,ha.n,ha.o⟩
def fT(a:E):E:=if kQ a then a else .un .iS a
def ij(a:E)(h:H):H:=if kQ a then h else⟨.un .iS h.e,h.n,h.o⟩
noncomputable def mf(sp:az)(a:E):E:=if sp then .un (.bS ae) a else a
noncomputable def kL(sp:az)(h:H):H:=if sp then⟨.un (.bS ae) h.e,h.n,h.o⟩ else h
noncomputable def gq(t:aq):E:=.la (.bq .xf) (.var t) (.lit .none)
noncomputable def eA(c:E)(b:af S):S:=.b9 c b [] ag
def d7(n:ai)(o1:af S)(x1 c:E)(h:H)(x2:E):H:=⟨.var (aG<|n+1),h.n,(o1++[cB (aG<|n+1) x1])++[eA c<|h.o++[cB (aG<|n+1) x2]]⟩
def Ck(n:ai)(a b c:H):H:=⟨.var (aG<|n+1),b.n,a.o++[.b9 a.e (b.o++[cB (aG<|n+1) b.e]) (c.o++[cB (aG<|n+1) c.e]) ae]⟩
noncomputable def hv:E->ai->H
 | .lit d,n=>⟨.lit d,n,[]⟩
 | .var x,n=>⟨.var x,n,[]⟩
 | .y0,n=>kH (n+1) ⟨.y0,n+1,[]⟩| .dW p x,n=>⟨.dW p x,n,[]⟩
 | .un u e,n=>if qp u then kH (n+1) ⟨.un u (hv e<|n+1).e,(hv e<|n+1).n,(hv e<|n+1).o⟩ else⟨.un u (hv e n).e,(hv e n).n,(hv e n).o⟩| .bi w a b,n=>match w with
  | .y2=>kH (n+1) (pr (.bi .y2) ag (Y b) b (hv a<|n+1)<|hv b)| .bS sa sb=>pr (.bi<|.bS sa sb) ag (Y b) b (kL (Y b&&sa)<|hv a n) (hv b)| .dY=>if Y a||Y b then pr (.bi .dY) ag (Y b) (fT b) (ij a<|hv a n) (λk=>ij b<|hv b k) else⟨.bi .dY a b,n,[]⟩|w=>pr (.bi w) ag (Y b) b (hv a n) (hv b)
 | .la l a b,n=>pr (.la l) ae (Y b) b (hv a n) (hv b)| .cN q a b,n=>if Y b then d7 n (hv a<|n+1).o (.un .fF (hv a<|n+1).e) (if q then .un .nt (.var<|aG (n+1)) else .var (aG<|n+1)) (hv b (hv a<|n+1).n) (.un .fF (hv b (hv a<|n+1).n).e) else⟨.cN q (hv a n).e b,(hv a n).n,(hv a n).o⟩| .bW a b,n=>if Y b then d7 n (hv a<|n+1).o (.bW (hv a<|n+1).e<|.lit .none) (gq<|aG (n+1)) (hv b (hv a<|n+1).n) (hv b (hv a<|n+1).n).e else⟨.bW (hv a n).e b,(hv a n).n,(hv a n).o⟩| .c7 a c,n=>if Y c then d7 n (hv a<|n+1).o (hv a<|n+1).e (.un .nt<|.var (aG<|n+1)) (hv c (hv a<|n+1).n) (hv c (hv a<|n+1).n).e else⟨.c7 (hv a n).e c,(hv a n).n,(hv a n).o⟩| .c6 a b c,n=>if Y b||Y c then Ck n (hv a<|n+1) (hv b (hv c (hv a<|n+1).n).n) (hv c (hv a<|n+1).n) else⟨.c6 (hv a n).e b c,(hv a n).n,(hv a n).o⟩| .dz x e,n=>if Y e then d7 n [] (.bW (.var x)<|.lit .none) (gq<|aG (n+1)) (hv e<|n+1) (.un (.aN x) (hv e<|n+1).e) else⟨.dz x e,n,[]⟩| .c8 i e,n=>if Y e then d7 n (keep ag<|hv i (n+1)).o (.bW (.la .cS (.var bz) (keep ag<|hv i (n+1)).e)<|.lit .none) (gq<|aG (n+1)) (hv e (keep ag<|hv i (n+1)).n) (.bi .d8 (keep ag<|hv i (n+1)).e (hv e (keep ag<|hv i (n+1)).n).e) else⟨.c8 (hv i n).e e,(hv i n).n,(hv i n).o⟩| .cZ e w h,n=>⟨.cZ (hv e n).e w h,(hv e n).n,(hv e n).o⟩
def ia:E->az
 | .y0=>ae| .un u _=>qp u| .bi w _ _=>Cm w|_=>ag
def fR:E->ai->H
 | .un u e,n=>⟨.un u (hv e n).e,(hv e n).n,(hv e n).o⟩
 | .bi w a b,n=>pr (.bi w) ag (Y b) b (hv a n) (hv b)|e,n=>⟨e,n,[]⟩
def nw(e:E):af S:=if lF e then[] else[.ex e]
def qF(e:E)(n:ai):af S×ai:=
 if Y e then(if ia e then((fR e n).o++[.ex (fR e n).e],(fR e n).n) else((hv e n).o++nw (hv e n).e,(hv e n).n)) else([.ex e],n)
def gn(c:E):S:=eA (.un .nt c) [.fk ae]
def Ew(h:H)(b:af S):S:=.cM (.lit<|.bool ae) ((h.o++[gn h.e])++b)
def CQ(t:aq)(h:H)(b:af S):af S:=[cB t (.lit<|.bool ag),.cM (.lit<|.bool ae)<|eA (.var t) (h.o++[gn h.e])::cB t (.lit<|.bool ae)::b]
mutual
noncomputable def h1:S->ai->af S×ai
 | .ex e,n=>qF e n| .dT a,n=>((hv a n).o++[.dT (hv a n).e],(hv a n).n)
 | .ig a b,n=>if Y a||Y b then(((hv a n).o++[.dT (hv a n).e])++((hv b (hv a n).n).o++[.dT (hv b (hv a n).n).e]),(hv b (hv a n).n).n) else([.ig a b],n)| .fk k,n=>([.fk k],n)
 | .jK,n=>([.jK],n)
 | .ret e,n=>((hv e n).o++[.ret (hv e n).e],(hv e n).n)
 | .gO b,n=>([.gO (hB b n).1],(hB b n).2)
 | .b9 c b o k,n=>((hv c n).o++[.b9 (hv c n).e (hB b (hv c n).n).1 (hB o (hB b (hv c n).n).2).1 k],(hB o (hB b (hv c n).n).2).2)
 | .dH c b c' b' o k,n=>if Y c' then
   ((hv c n).o++[.b9 (hv c n).e (hB b (hv c n).n).1 ((hv c' (hB o (hB b (hv c n).n).2).2).o++[.b9 (hv c' (hB o (hB b (hv c n).n).2).2).e (hB b' (hv c' (hB o (hB b (hv c n).n).2).2).n).1 (hB o (hB b' (hv c' (hB o (hB b (hv c n).n).2).2).n).2).1 k]) ae],(hB o (hB b' (hv c' (hB o (hB b (hv c n).n).2).2).n).2).2)
  else((hv c n).o++[.dH (hv c n).e (hB b (hv c n).n).1 c' (hB b' (hB o (hB b (hv c n).n).2).2).1 (hB o (hB b (hv c n).n).2).1 k],(hB b' (hB o (hB b (hv c n).n).2).2).2)
 | .cM c b,n=>if Y c then([Ew (hv c n) (hB b (hv c n).n).1],(hB b (hv c n).n).2) else([.cM c (hB b n).1],(hB b n).2)| .c9 b c,n=>if Y c then(CQ (aG<|n+1) (hv c<|n+1) (hB b (hv c<|n+1).n).1,(hB b (hv c<|n+1).n).2) else([.c9 (hB b n).1 c],(hB b n).2)| .fe w b,n=>((hv w n).o++[.fe (hv w n).e (hB b (hv w n).n).1],(hB b (hv w n).n).2)
 | .sw c x y,n=>((hv c (hB y (hB x n).2).2).o++[.sw (hv c (hB y (hB x n).2).2).e (hB x n).1 (hB y (hB x n).2).1],(hv c (hB y (hB x n).2).2).n)
 | .tr b f,n=>([.tr (hB b (hB f n).2).1 (hB f n).1],(hB b (hB f n).2).2)
noncomputable def hB:af S->ai->af S×ai
 |[],n=>([],n)
 |x::r,n=>((h1 x n).1++(hB r (h1 x n).2).1,(hB r (h1 x n).2).2)
end
end
theorem aL.AI{c:az}{P:ai->E->Prop}(h0:∀h,P h .y0)(h1:∀h u e,qp u=ae->nJ c u->aL c h e->P (h+1) (.un u e))(h2:∀h a b,aL c h a->aL c h b->P (h+1) (.bi .y2 a b)){h:ai}{e:E}(o:aL c h e):ia e=ae->P h e:=by
 induction o with
 |y0=>exactλ_=>h0 _|un hu oe _=>exactλhy=>h1 _ _ _ hy hu oe|@bi h w a b oa ob _ _=>
  cases w with
  |y2=>exactλ_=>h2 _ _ _ oa ob|_=>exactλhy=>nomatch hy
 |_=>exactλhy=>nomatch hy
section
def BM:af (aq×V):=match Q8 with
 |[.ret<|.xj bc]=>bc|_=>[]
def pe(k:ai)(v:V):Os:=[.au k ag,.aK 0 (.val<|.str (hd v)),.au 0 ae]
end
theorem XE:ao 1 0 [] [] (.own<|.fb BM) []:=ao.go [] λ_ _ z=>z
theorem Z6(e:E)(rs:Rs):cv .ne (.val<|.str (hd<|ak e)) (.val<|.str pU) rs=ab ae:=(B1 _ _ rs).trans (ay ab<|ay (!·) (nd e).nm)
theorem Pe(e:E)(rs:Rs){Z:Prop}(z:Z):cv .is (.val<|ak e) (.val .none) rs=ab ag/\e9 (.val<|ak e) (.int 0) rs=ab (.val<|.str (hd<|ak e))/\cv .ne (.val<|.str (hd<|ak e)) (.val<|.str pU) rs=ab ae/\Z:=⟨en e rs,i0 e rs,Z6 e rs,z⟩
theorem xr(v:V){f:af V}(h:f.length+1<=100000):iQ .append (.ref 0) [.val v] [.ah f]=ab (.val .none,[.ah<|f++[v]]):=ay (gv _) (show mN (.ref 0) [v] [.ah f]=ab [.ah<|f++[v]] from a9 h)
theorem HS{f ds:af V}(h:f.length+ds.length<=100000):iQ .kU (.ref 0) [.val<|.tuple ds] [.ah f]=ab (.val .none,[.ah<|f++ds]):=ay (gv _) (show mN (.ref 0) ds [.ah f]=ab [.ah<|f++ds] from a9 h)
theorem Fb:ao 1 3 [] [.str wm] (.val<|.str j9) []:=ao.go [] λ_ _ z=>z
theorem Fc:ao 1 3 [] [.str i9] (.val<|.str iM) []:=ao.go [] λ_ _ z=>z
theorem Mc:ao 1 3 [] [.str Ms] (.val<|.str rH) []:=ao.go [] λ_ _ z=>z
theorem pQ:ao 1 3 [] [.str gB] (.val<|.str kN) []:=ao.go [] λ_ _ z=>z
section
variable{a b c:E}{o:aq}{x y x' y':V}{f:af V}
theorem FE(h:f.length+1<=100000):ao 1 4 [.ah f] [.str iM,.tuple [ak a,.bool ag,.none]] (.val .none) [.ah<|f++[ak a]]:=
 ao.go (pe 0 (ak a)++[.bw 0 (.val .none) [.ah<|f++[ak a]]]) λ_ _ z=>Pe a [.ah f] (an (xr (ak a) h) z)
theorem FD(h:f.length+1<=100000):ao 1 4 [.ah f] [.str j9,.tuple [.none,ak a,x,y]] (.val .none) [.ah<|f++[ak a]]:=
 ao.go (pe 1 (ak a)++[.bw 0 (.val .none) [.ah<|f++[ak a]]]) λ_ _ z=>Pe a [.ah f] (an (xr (ak a) h) z)
theorem FH(d:V):ao 2 4 [.ah []] [.str m9,.tuple [d]] (.val .none) [.ah []]:=by
 cases h:dS d with
 |true=>exact ao.go [.au 0 ae] λ_ _ z=>an (rN h [.ah []]) z|false=>exact ao.go [.au 0 ag] λ_ _ z=>an (rN h [.ah []]) z
theorem Y9{p:az}{x:aq}:ao 2 4 [.ah []] [.str Ff,.tuple [.str wh,.bool p,cy x]] (.val .none) [.ah [cy x]]:=ao.go [] λ_ _ z=>z
theorem FG:ao 2 4 [.ah []] [.str iM,.tuple [ak a]] (.val .none) [.ah [ak a]]:=ao.go (pe 0<|ak a) λ_ _ z=>Pe a [.ah []] z
theorem Zh:ao 2 4 [.ah []] [.str wg,.tuple [.str o,ak a]] (.val .none) [.ah [ak a]]:=ao.go (pe 2<|ak a) λ_ _ z=>Pe a [.ah []] z
theorem yP:ao 2 4 [.ah []] [.str j9,.tuple [ak a,ak b]] (.val .none) [.ah [ak a,ak b]]:=ao.go (pe 0 (ak a)++pe 0 (ak b)) λ_ _ z=>Pe a [.ah []] (Pe b [.ah [ak a]] z)
theorem yQ:ao 2 4 [.ah []] [.str Fg,.tuple [.str o,ak a,ak b]] (.val .none) [.ah [ak a,ak b]]:=ao.go (pe 2 (ak a)++pe 0 (ak b)) λ_ _ z=>Pe a [.ah []] (Pe b [.ah [ak a]] z)
theorem Ze:ao 2 4 [.ah []] [.str Fs,.tuple [ak a,ak b,ak c]] (.val .none) [.ah [ak a,ak b,ak c]]:=
 ao.go (pe 0 (ak a)++(pe 0 (ak b)++pe 0 (ak c))) λ_ _ z=>Pe a [.ah []] (Pe b [.ah [ak a]]<|Pe c [.ah [ak a,ak b]] z)
theorem Zc:ao 2 4 [.ah []] [.str Fs,.tuple [ak a,.none,ak b]] (.val .none) [.ah [ak a,ak b]]:=ao.go (pe 0 (ak a)++pe 1 (ak b)) λ_ _ z=>Pe a [.ah []] (Pe b [.ah [ak a]] z)
theorem Zj:ao 2 4 [.ah []] [.str BJ,.tuple [wL,.tuple [.tuple [ak a,.bool ag,.none]]]] (.val .none) [.ah [ak a]]:=
 ao.go [.call (.val<|.str iM) [],.call (.val .none) [.ah [ak a]]] λk hk z=>an (Fc k hk) (an (FE (a:=a) (f:=[]) (bJ rfl) k hk) z)
theorem Zi:ao 2 4 [.ah []] [.str BJ,.tuple [wL,.tuple [.tuple [ak a,.bool ag,.none],.tuple [ak b,.bool ag,.none]]]] (.val .none) [.ah [ak a,ak b]]:=
 ao.go [.call (.val<|.str iM) [],.call (.val .none) [.ah [ak a]],.call (.val<|.str iM) [],.call (.val .none) [.ah [ak a,ak b]]] λk hk z=>an (Fc k hk) (an (FE (a:=a) (f:=[]) (bJ rfl) k hk)<|an (Fc k hk) (an (FE (a:=b) (f:=[ak a]) (bJ rfl) k hk) z))
theorem Zp:ao 2 4 [.ah []] [.str wm,.tuple [.tuple [.tuple [.none,ak a,x,y]]]] (.val .none) [.ah [ak a]]:=
 ao.go [.call (.val<|.str j9) [],.call (.val .none) [.ah [ak a]]] λk hk z=>an (Fb k hk) (an (FD (a:=a) (x:=x) (y:=y) (f:=[]) (bJ rfl) k hk) z)
theorem Zo:ao 2 4 [.ah []] [.str wm,.tuple [.tuple [.tuple [.none,ak a,x,y],.tuple [.none,ak b,x',y']]]] (.val .none) [.ah [ak a,ak b]]:=
 ao.go [.call (.val<|.str j9) [],.call (.val .none) [.ah [ak a]],.call (.val<|.str j9) [],.call (.val .none) [.ah [ak a,ak b]]] λk hk z=>an (Fb k hk) (an (FD (a:=a) (x:=x) (y:=y) (f:=[]) (bJ rfl) k hk)<|an (Fb k hk) (an (FD (a:=b) (x:=x') (y:=y') (f:=[ak a]) (bJ rfl) k hk) z))
theorem BO{ds:af V}(h:ds.length<=90000):ao 2 4 [.ah []] [.str tG,.tuple [.tuple ds]] (.val .none) [.ah ds]:=
 ao.go [.bw 0 (.val .none) [.ah ds]] λk hk z=>an (HS (f:=[]) (ds:=ds)<|aj (bA<|kC _) (aj h aa)) z
theorem YV{w h:V}(hf:f.length+3<=100000):ao 1 4 [.ah f] [.str rH,.tuple [.tuple [bO w,bO h],bO<|.int 7]] (.val .none) [.ah<|(f++[bO w,bO h])++[bO<|.int 7]]:=
 ao.go [.bw 0 (.val .none) [.ah<|f++[bO w,bO h]],.bw 0 (.val .none) [.ah<|(f++[bO w,bO h])++[bO<|.int 7]]] λ_ _ z=>an (HS (ds:=[bO w,bO h])<|eL hf) (an (xr (bO<|.int 7)<|aj (bA<|ay Av (eX (as:=f) (bs:=[bO w,bO h]))) hf) z)
theorem YU(hf:f.length+1<=100000):ao 1 4 [.ah f] [.str rH,.tuple [.none,bO<|.int 8]] (.val .none) [.ah<|f++[bO<|.int 8]]:=
 ao.go [.bw 0 (.val .none) [.ah<|f++[bO<|.int 8]]] λ_ _ z=>an (xr (bO<|.int 8) hf) z
theorem Zd{w h:V}:ao 2 4 [.ah []] [.str Mw,.tuple [ak a,zZ w h]] (.val .none) [.ah [ak a,bO w,bO h,bO (.int 7),bO<|.int 8]]:=
 ao.go (pe 0 (ak a)++[.call (.val<|.str rH) [],.call (.val .none) [.ah [ak a,bO w,bO h,bO<|.int 7]],.call (.val<|.str rH) [],.call (.val .none) [.ah [ak a,bO w,bO h,bO (.int 7),bO<|.int 8]]]) λk hk z=>Pe a [.ah []] (an (Mc k hk)<|an (YV (w:=w) (h:=h) (f:=[ak a]) (bJ rfl) k hk) (an (Mc k hk)<|an (YU (f:=[ak a,bO w,bO h,bO<|.int 7]) (bJ rfl) k hk) z))
end
theorem e8{v:V}{r:aq}(e:∀k,dK (b5 a8 k) (dQ a8) Ih [] (slots [ag] 0 [v]++eW 1 aw) [.call (.own<|.fb BM) []] (λfl rs _ _=>a6 0 fl rs=ab (.val (.str r),[]))=(b5 a8 k 0 [] [] (.own<|.fb BM) []/\ab (MV.val (.str r),([]:Rs))=ab (.val (.str r),[]))):ao 2 1 [] [v] (.val<|.str r) []:=
 ao.go [.call (.own<|.fb BM) []] (λk hk z=>an (XE k hk) z) (e:=e)
theorem gU{h r:aq}{tl ds:af V}(hl:kD tl.length 10=ae)(hp:ao 2 4 [.ah []] [.str r,.tuple tl] (.val .none) [.ah ds])(hr:ao 2 1 [] [.tuple<|.str h::tl] (.val<|.str r) []):ao 3 5 [] [.tuple<|.str h::tl] (.own<|.ah ds) []:=
 ao.go [.call (.val<|.str r) [],.dU 0 (.val<|.tuple tl),.call (.val .none) [.ah ds]] (λk hk z=>an (hr k hk)<|an (show tj (.tuple<|.str h::tl) (ab 1) aw=ab (.val<|.tuple tl) from(Ls<|aj (bG<|bJ hl) aa).trans (ay (λl=>ab<|MV.val (.tuple l))<|by
   show pA (tl.length+1-clipAt (tl.length+1) 1) (pD (clipAt (tl.length+1) 1)<|jn h::tl)=tl
   rw[QF]
   exact DN (aF _))) (an (hp k hk) z))
def GA:E->af E
 | .un u e=>match u with
  | .aN x=>[.var x,e]| .op _ x=>[.var x,e]|_=>[e]
 | .bi w a b=>match w with
  | .dY=>[.lit (.str et),a,b]| .d8=>[.la .cS (.var bz) a,b]| .fW _=>[.la .cS (.var bz) a,b]|_=>[a,b]
 | .la _ a b=>[a,b]
 | .cN _ a b=>[a,b]| .bW a b=>[a,b]| .c7 a c=>[a,c]| .c6 a b c=>[a,b,c]
 | .dz x e=>[.var x,e]| .c8 i e=>[.la .cS (.var bz) i,e]| .cZ e w h=>[e,.lit w,.lit h,.lit (.int 7),.lit<|.int 8]
 | .dW _ x=>[.var x]|_=>[]
theorem XI(e:E)(hy:ia e=ag):ao 3 5 [] [ak e] (.own<|.ah ((GA e).map ak)) []:=by
 cases e with
 |lit d=>exact gU rfl (FH d) (e8 λk=>by kernel_rfl)
 |var x=>exact gU rfl (FH<|.str x) (e8 λk=>by kernel_rfl)
 |y0=>cases hy|dW p x=>exact gU rfl Y9 (e8 λk=>by kernel_rfl)
 |un u e=>
  cases u with
  |y1=>cases hy|yf=>cases hy|call=>exact gU rfl Zj (e8 λk=>by kernel_rfl)
  |jP=>exact gU rfl FG (e8 λk=>by kernel_rfl)
  |aN x=>exact gU rfl (yP (a:=.var x)) (e8 λk=>by kernel_rfl)
  |op q x=>exact gU rfl (yQ (a:=.var x)) (e8 λk=>by kernel_rfl)
  |bS sp=>exact gU rfl Zp (e8 λk=>by kernel_rfl)
  |_=>exact gU rfl Zh (e8 λk=>by kernel_rfl)
 |bi w a b=>
  cases w with
  |y2=>cases hy|call=>exact gU rfl Zi (e8 λk=>by kernel_rfl)
  |bS sa sb=>exact gU rfl Zo (e8 λk=>by kernel_rfl)
  |dY=>exact gU rfl (BO (ds:=[bO (.str et),ak a,ak b])<|bJ rfl) (e8 λk=>by kernel_rfl)
  |d8=>exact gU rfl (yP (a:=.la .cS (.var bz) a)) (e8 λk=>by kernel_rfl)
  |fW q=>exact gU rfl (yQ (a:=.la .cS (.var bz) a)) (e8 λk=>by kernel_rfl)
 |la l a b=>
  cases l with
  |bq o=>exact gU rfl yQ (e8 λk=>by kernel_rfl)
  |cS=>exact gU rfl yP (e8 λk=>by kernel_rfl)
 |cN o a b=>cases o<;>exact gU rfl yP (e8 λk=>by kernel_rfl)
 |bW a b=>exact gU rfl yP (e8 λk=>by kernel_rfl)
 |c7 a c=>exact gU rfl Zc ((ao.go (n:=0) [] λ_ _ z=>z).aU aa)|c6 a b c=>exact gU rfl Ze ((ao.go (n:=0) [] λ_ _ z=>z).aU aa)|dz x e=>exact gU rfl (yQ (a:=.var x)) (e8 λk=>by kernel_rfl)
 |c8 i e=>exact gU rfl (yQ (a:=.la .cS (.var bz) i)) (e8 λk=>by kernel_rfl)
 |cZ e w h=>exact gU rfl Zd (e8 λk=>by kernel_rfl)
section
def hyT(k:ai)(rs:Rs)(vs:Vs)(os:Os)(K:az->Rs->Os->Prop):Prop:=wT (b5 a8 k) (dQ a8) (.au .gt (.bi .len<|.var 1)<|.lit (.int 0)) rs vs os λ_=>K
def hyB:af ST:=[.aN 2 (.bw .p9 (.var 1) []),
 .ite (.au .dt (.aK (.var 2)<|.lit (.int 0))<|.aC [.lit (.str fC),.lit<|.str jN]) [.ret<|.lit (.bool ae)] [],
 .ite (.au .lJ (.aK (.var 2)<|.lit (.int 0))<|.aC [.lit (.str wo),.lit<|.str tJ]) [.expr<|.bw .kU (.var 1) [.call 5 [.var 2]]] []]
def hyF(k:ai)(rs:Rs)(vs:Vs)(os:Os)(K:Fl->Rs->Vs->Os->Prop):Prop:=dK (b5 a8 k) (dQ a8) hyB rs vs os K
noncomputable def pO:Fl:=.rt (.val<|.bool ae)
def Wh(k:ai)(ps:af V)(fl:Fl):Prop:=∀(a w2:aD MV),∃(cj:Rs)(eB:Vs)(n:ai)(os:Os),oG (hyT k) (hyF k) n [.ah ps] [a,ab (.ref 0),w2] os λf rs vs _=>f=fl/\rs=cj/\vs=eB
def Pr(k:ai)(vs:af V)(y:az)(n:ai):Prop:=vs.length<=n/\∀ps:af V,ps.length+n<=90000->∀fl,(if y then fl=pO else Wh k ps fl)->Wh k (ps++vs) fl
end
theorem zm(s a b:aq)(rs:Rs):cv .dt (.val<|.str s) (.val<|.tuple [.str a,.str b]) rs=ab (dM a s||dM b s):=by
 show(if min (mT [.str a,.str b]) (jC<|.str s)<=100 then ab ([jn a,jn b].any λy=>jZ y<|.str s) else aw)=_
 rw[a9<|aj (u3 _ (jC<|.str s)) (show jC (.str s)<=100 from bQ 100)]
 show ab (jZ (.str a) (.str s)||(jZ (.str b) (.str s)||ag))=_
 rw[qH,qH,cJ]
theorem aap(s a b:aq)(rs:Rs):cv .lJ (.val<|.str s) (.val<|.tuple [.str a,.str b]) rs=ab (!(dM a s||dM b s)):=ay (gv (!·)) (zm s a b rs)
structure Nv(h:aq)(y:az):Prop where
 Co:(dM fC h||dM jN h)=y
 nf:(dM wo h||dM tJ h)=ag
theorem Nv.ak(e:E):Nv (hd<|ak e) (ia e):=by
 cases e with
 |un u e=>cases u<;>exact⟨rfl,rfl⟩|bi w a b=>cases w<;>exact⟨rfl,rfl⟩|la l a b=>cases l<;>exact⟨rfl,rfl⟩|cN o a b=>cases o<;>exact⟨rfl,rfl⟩|_=>exact⟨rfl,rfl⟩
section
variable{k m n j:ai}{ps us vs cs:af V}{u v:V}{h:aq}{y z:az}{fl:Fl}
theorem Py(m:ai)(rs:Rs):cv .gt (.val<|.int ((m+1:ai):aH)) (.val<|.int 0) rs=ab ae:=ay ab (gQ<|Ts.mpr (sN m))
theorem N7(h:ps.length+1<=90000):gY .len (.list<|ps++[v])=ab (.val<|.int ((ps.length+1:ai):aH)):=
 have e:(ps++[v]).length=ps.length+1:=eX
 (y7 (xs:=ps++[v])<|e▸aj h aa).trans (ay (λn:ai=>ab<|MV.val (.int n)) e)
theorem MF(h:ps.length+1<=90000):iQ .p9 (.ref 0) [] [.ah<|ps++[v]]=ab (.val v,[.ah ps]):=by
 have e:(ps++[v]).length=ps.length+1:=eX
 show(if(ps++[v]).length<=100000 then(ps++[v]).getLast?.map λx=>(MV.val x,[bP.ah (ps++[v]).dropLast]) else aw)=_
 rw[a9 (e▸aj h aa),List.getLast?_concat,List.dropLast_concat];rfl
theorem adv(h:ps.length+cs.length<=90000):iQ .kU (.ref 0) [.own<|.ah cs] [.ah ps]=ab (.val .none,[.ah<|ps++cs]):=ay (gv _) (show mN (.ref 0) cs [.ah ps]=ab [.ah<|ps++cs] from a9<|aj h aa)
theorem Wh.nil:Wh k [] .nx:=λa w2=>⟨[.ah []],[a,ab (.ref 0),w2],1,[],cR (⟨rfl,rfl,rfl⟩:Fl.nx=.nx/\[bP.ah []]=[.ah []]/\[a,ab (.ref 0),w2]=[a,ab (.ref 0),w2])<|by kernel_rfl⟩
theorem Wh.vj(hi:∀rs,e9 (.val v) (.int 0) rs=ab (.val<|.str h))(nv:Nv h ae)(hp:ps.length+1<=90000):Wh k (ps++[v]) pO:=λa w2=>
 ⟨[.ah ps],[a,ab (.ref 0),ab<|.val v],1,[.bi 0 (.val<|.int ((ps.length+1:ai):aH)),.au 0 ae,.bw 0 (.val v) [.ah ps],.aK 0 (.val<|.str h),.au 0 ae],
  cR (an (N7 (v:=v) hp)<|an (Py ps.length [.ah<|ps++[v]]) (an (MF (v:=v) hp)<|an (hi [.ah ps]) (an ((zm h fC jN [.ah ps]).trans (ay ab nv.Co))
   (⟨rfl,rfl,rfl⟩:pO=pO/\[bP.ah ps]=[.ah ps]/\[a,ab (.ref 0),ab<|.val v]=[a,ab (.ref 0),ab<|.val v])))) (by kernel_rfl)⟩
theorem Wh.go(hi:∀rs,e9 (.val v) (.int 0) rs=ab (.val<|.str h))(nv:Nv h ag)(hc:b5 a8 k 5 [] [v] (.own<|.ah cs) [])(hp:ps.length+1<=90000)(hp':ps.length+cs.length<=90000)(w:Wh k (ps++cs) fl):Wh k (ps++[v]) fl:=λa w2=>
 (w a<|ab (.val v)).imp λ_=>.imp λ_=>.imp' (·+1) λ_=>.imp' ([.bi 0 (.val<|.int ((ps.length+1:ai):aH)),.au 0 ae,.bw 0 (.val v) [.ah ps],.aK 0 (.val<|.str h),.au 0 ag,.aK 0 (.val<|.str h),.au 0 ae,.call (.own<|.ah cs) [],.bw 0 (.val .none) [.ah<|ps++cs]]++·) λ_ z=>
  cR (an (N7 (v:=v) hp)<|an (Py ps.length [.ah<|ps++[v]]) (an (MF (v:=v) hp)<|an (hi [.ah ps]) (an ((zm h fC jN [.ah ps]).trans (ay ab nv.Co))<|an (hi [.ah ps]) (an ((aap h wo tJ [.ah ps]).trans (ay (λb=>ab<|!b) nv.nf))<|an hc (an (adv hp') z))))) (by kernel_rfl)
theorem Pr.nil:Pr k [] ag n:=⟨bQ _,λps _ fl h=>(fy ps).symm▸h⟩
theorem Pr.le(p:Pr k us y m)(h:m<=n):Pr k us y n:=⟨aj p.1 h,λps hp=>p.2 ps<|aj (bK h _) hp⟩
theorem Pr.dq{N:ai}(p:Pr k us y N)(q:Pr k vs z n)(h:us.length+n<=N):Pr k (us++vs) (y||z) N:=by
 refine⟨aj (bA eX) (aj (bK q.1 _) h),λps hp fl hf=>?_⟩
 have h2:(ps++us).length+n<=90000:=aj (aj (bA<|(ay (·+n) eX).trans (fg _ _ _))<|bK h _) hp
 rw[<-oz]
 refine q.2 (ps++us) h2 fl ?_
 cases z with
 |true=>exact(ay (λb=>if b=ae then fl=pO else Wh k ps fl)<|Jx y).mp hf|false=>exact p.2 ps hp fl ((ay (λb=>if b=ae then fl=pO else Wh k ps fl)<|cJ y).mp hf)
theorem Pr.cons(p:Pr k [u] y n)(q:Pr k vs z n):Pr k (u::vs) (y||z) (n+1):=(p.le<|aR n).dq q (bA<|l7 1 n)
theorem Pr.eq(p:Pr k us y n)(h:y=z):Pr k us z n:=h▸p
theorem Pr.vj(hi:∀rs,e9 (.val v) (.int 0) rs=ab (.val<|.str h))(nv:Nv h ae)(hn:1<=n):Pr k [v] ae n:=⟨hn,λps hp fl e=>(show fl=pO from e)▸Wh.vj hi nv (aj (bK hn _) hp)⟩
theorem Pr.go(hi:∀rs,e9 (.val v) (.int 0) rs=ab (.val<|.str h))(nv:Nv h ag)(hc:ao 3 5 [] [v] (.own<|.ah cs) [])(hk:3<=k)(p:Pr k cs y n):Pr k [v] y (n+1):=
 ⟨bG (bQ n),λps hp fl hf=>
  have h0:=aj (bK (aR n) ps.length) hp
  Wh.go hi nv (hc k hk) (aj (bK (bG<|bQ n) _) hp) (aj (bK p.1 _) h0) (p.2 ps h0 fl hf)⟩
end
section
variable{k n h:ai}{a b c d e:E}
theorem Pr.cL(hk:3<=k){y:az}(e:E)(hy:ia e=ag)(p:Pr k ((GA e).map Mine.L.ak) y n):Pr k [Mine.L.ak e] y (n+1):=Pr.go (i0 e) (hy▸Nv.ak e) (XI e hy) hk p
theorem YX(h:ai)(m:ai):m<=5->n<=5*h+5->n+m<=5*(h+1)+5:=λa b=>aj (cQ b a) (aF _)
theorem Pr.Oe(hk:3<=k)(e:E)(h:GA e=[])(hy:ia e=ag):Pr k [Mine.L.ak e] ag 1:=Pr.cL hk e hy (n:=0) (h.symm▸Pr.nil)
theorem Pr.var(hk:3<=k){x:aq}(h:1<=n):Pr k [cy x] ag n:=(Pr.Oe hk (.var x) rfl rfl).le h
theorem Pr.lit(hk:3<=k){d:V}(h:1<=n):Pr k [bO d] ag n:=(Pr.Oe hk (.lit d) rfl rfl).le h
theorem Pr.cS(hk:3<=k){y:az}(h:1<=n)(p:Pr k [Mine.L.ak a] y n):Pr k [Mine.L.ak<|.la .cS (.var bz) a] y (n+2):=Pr.cL hk (.la .cS (.var bz) a) rfl ((Pr.var hk h).cons p)
theorem mw(h:ai):1<=5*h+5:=bG (bQ _)
theorem Pr.ak{aeI:az}(hk:3<=k)(o:aL aeI h e):Pr k [Mine.L.ak e] (Y e) (5*h+5):=by
 have le:∀{h m:ai}{vs:af V}{y:az},m<=5->Pr k vs y ((5*h+5)+m)->Pr k vs y (5*(h+1)+5):=λhm p=>p.le (YX _ _ hm<|aF _)
 induction o with
 |@lit h d _=>exact Pr.lit hk (mw h)|@var h x _=>exact Pr.var hk (mw h)|@y0 h=>exact Pr.vj (i0 .y0) (Nv.ak .y0) (mw h)|@dW h p x _=>exact(Pr.cL hk (.dW p x) rfl (Pr.var hk<|aF 1)).le (aj aa<|bY 5 (5*h))|@un h u e _ _ ih=>
  cases u with
  |y1=>exact Pr.vj (i0<|.un .y1 e) (Nv.ak _) (mw _)|yf=>exact Pr.vj (i0<|.un .yf e) (Nv.ak _) (mw _)|aN x=>exact le (m:=2) aa (Pr.cL hk (.un (.aN x) e) rfl ((Pr.var hk<|mw h).cons ih))|op q x=>exact le (m:=2) aa (Pr.cL hk (.un (.op q x) e) rfl ((Pr.var hk<|mw h).cons ih))|call=>exact le (m:=1) aa (Pr.cL hk (.un .call e) rfl ih)|nt=>exact le (m:=1) aa (Pr.cL hk (.un .nt e) rfl ih)|neg=>exact le (m:=1) aa (Pr.cL hk (.un .neg e) rfl ih)|jP=>exact le (m:=1) aa (Pr.cL hk (.un .jP e) rfl ih)|fF=>exact le (m:=1) aa (Pr.cL hk (.un .fF e) rfl ih)|iS=>exact le (m:=1) aa (Pr.cL hk (.un .iS e) rfl ih)|bS sp=>exact le (m:=1) aa (Pr.cL hk (.un (.bS sp) e) rfl ih)
 |@bi h w a b _ _ aE aJ=>
  have dm:=(Pr.cS hk (mw h) aE)
  cases w with
  |y2=>exact Pr.vj (i0<|.bi .y2 a b) (Nv.ak _) (mw _)|call=>exact le (m:=2) aa (Pr.cL hk (.bi .call a b) rfl (aE.cons aJ))|bS sa sb=>exact le (m:=2) aa (Pr.cL hk (.bi (.bS sa sb) a b) rfl (aE.cons aJ))|dY=>exact le (m:=3) aa (Pr.cL hk (.bi .dY a b) rfl ((Pr.lit hk<|mw h).le (aR _) |>.cons (aE.cons aJ)))|d8=>exact le (m:=4) aa (Pr.cL hk (.bi .d8 a b) rfl (dm.cons<|aJ.le (aW _ 2)))|fW q=>exact le (m:=4) aa (Pr.cL hk (.bi (.fW q) a b) rfl (dm.cons<|aJ.le (aW _ 2)))
 |@la h l a b _ _ aE aJ=>cases l<;>exact le (m:=2) aa (Pr.cL hk (.la _ a b) rfl (aE.cons aJ))|@cN h o a b _ _ aE aJ=>exact le (m:=2) aa (Pr.cL hk (.cN o a b) rfl (aE.cons aJ))|@bW h a b _ _ _ aE aJ=>exact le (m:=2) aa (Pr.cL hk (.bW a b) rfl (aE.cons aJ))|@c7 h a b _ _ aE aJ=>exact le (m:=2) aa (Pr.cL hk (.c7 a b) rfl (aE.cons aJ))|@c6 h a b d _ _ _ aE aJ gW=>exact le (m:=3) aa (Pr.cL hk (.c6 a b d) rfl ((aE.le<|aR _).cons<|aJ.cons gW))|@dz h x e _ _ ih=>exact le (m:=2) aa (Pr.cL hk (.dz x e) rfl ((Pr.var hk<|mw h).cons ih))|@c8 h a b _ _ aE aJ=>exact le (m:=4) aa (Pr.cL hk (.c8 a b) rfl ((Pr.cS hk (mw h) aE).cons<|aJ.le (aW _ 2)))|@cZ h e w v _ _ _ ih=>
  have L:∀{d:V}{m:ai},Pr k [bO d] ag ((5*h+5)+m):=λ{d m}=>Pr.lit hk (aj (mw h)<|aW _ m)
  have p:=Pr.cL hk (.cZ e w v) rfl ((ih.le<|aW _ 3).cons<|(L (m:=2)).cons ((L (m:=1)).cons<|(L (m:=0)).cons (L (m:=0))))
  exact le (m:=5) aa ((cJ<|Y e)▸p)
end
theorem acH{vs:af V}{y:az}{n:ai}(hn:n<=90000)(h:∀k,3<=k->Pr k vs y n):ao 4 6 [] [.tuple vs] (.val<|.bool y) []:=by
 refine ao.ex (n:=3) rfl rfl rfl λk hk=>?_
 have p:=h k hk
 have l:=Gh (xs:=vs) (aj p.1<|aj hn aa)
 have q:=λfl z=>p.2 [] (aj (bA<|kC n) hn) fl z (ab<|.val (.tuple vs)) aw
 cases y with
 |true=>exact(q pO rfl).elim λcj z=>z.elim λeB z=>⟨[.bi 0 (.own<|.ah vs),.lp pO cj eB],cR (an l<|an z (rfl:ab (MV.val (.bool ae),cj.take 0)=ab (MV.val (.bool ae),cj.take 0)))<|by kernel_rfl⟩
 |false=>exact(q .nx Wh.nil).elim λcj z=>z.elim λeB z=>⟨[.bi 0 (.own<|.ah vs),.lp .nx cj eB],cR (an l<|an z (rfl:ab (MV.val (.bool ag),cj.take 0)=ab (MV.val (.bool ag),cj.take 0)))<|by kernel_rfl⟩
theorem DZ{v:V}{y:az}{n:ai}(p:cv .is (.val v) (.val .none) []=ab ag)(hn:n<=90000)(h:∀k,3<=k->Pr k [v] y n):ao 5 7 [] [v] (.val<|.bool y) []:=
 ao.go [.au 0 ae,.call (.val<|.bool y) []] λk hk z=>an (show cv .kh (.val v) (.val .none) []=ab ae from ay (gv (!·)) p) (an (acH hn h k hk) z)
theorem iY:ao 5 7 [] [.none] (.val<|.bool ag) []:=(ao.go (n:=0) [] λ_ _ z=>z).aU aa
theorem jL{c:az}{h:ai}{e:E}(o:aL c h e)(hh:h<=10000):ao 5 7 [] [ak e] (.val<|.bool (Y e)) []:=DZ (en e []) (aj (dP (lA 5 hh) 5) aa) λ_ hk=>Pr.ak hk o
section
variable{a c:E}{f ds es o:af V}{m n:ai}
theorem qj(h:f.length<=m)(h':ds.length<=n):(f++ds).length<=m+n:=aj (bA eX) (cQ h h')
theorem sq(h:f.length<=9000)(h':ds.length<=1000):iQ .kU (.ref 0) [.val<|.tuple ds] [.ah f]=ab (.val .none,[.ah<|f++ds]):=HS (aj (cQ h h') aa)
theorem Rv(v:V)(h:f.length<=9000):iQ .append (.ref 0) [.val v] [.ah f]=ab (.val .none,[.ah<|f++[v]]):=xr v (aj (bG h) aa)
theorem b1:∀{v:V},[v].length<=1:=aF 1
theorem qe(h:f.length<=8000)(h':ds.length<=1000):ao 1 4 [.ah f] [.str kN,.tuple [ak c,.tuple ds]] (.val .none) [.ah<|(f++[ak c])++ds]:=
 ao.go (pe 0 (ak c)++[.bw 0 (.val .none) [.ah<|f++[ak c]],.bw 0 (.val .none) [.ah<|(f++[ak c])++ds]]) λ_ _ z=>Pe c [.ah f] (an (Rv (ak c)<|aj h aa)<|an (sq (f:=f++[ak c]) (aj (qj h b1) aa) h') z)
theorem YW(h:f.length<=8000)(h':ds.length<=1000):ao 1 4 [.ah f] [.str kN,.tuple [.none,.tuple ds]] (.val .none) [.ah<|f++ds]:=
 ao.go [.bw 0 (.val .none) [.ah<|f++ds]] λ_ _ z=>an (sq (aj h aa) h') z
theorem Zg:ao 2 4 [.ah []] [.str iM,.tuple [.none]] (.val .none) [.ah []]:=ao.go [] λ_ _ z=>z
theorem Zb(h:ds.length<=1000):ao 2 4 [.ah []] [.str kN,.tuple [ak c,.tuple ds]] (.val .none) [.ah<|[ak c]++ds]:=(qe (f:=[]) (bQ _) h).s1
theorem Y7(h:ds.length<=1000):ao 2 4 [.ah []] [.str rH,.tuple [.tuple ds,ak c]] (.val .none) [.ah<|ds++[ak c]]:=
 ao.go (.bw 0 (.val .none) [.ah ds]::(pe 0 (ak c)++[.bw 0 (.val .none) [.ah<|ds++[ak c]]])) λ_ _ z=>an (sq (f:=[]) (bQ _) h) (Pe c [.ah ds]<|an (Rv (ak c)<|aj h aa) z)
theorem Za(h:ds.length<=1000):ao 2 4 [.ah []] [.str Mj,.tuple [ak c,.none,cy ew,.bool ag,.tuple ds]] (.val .none) [.ah<|[ak c]++([cy ew]++ds)]:=
 ao.go (pe 0 (ak c)++[.bw 2 (.val .none) [.ah<|[ak c,cy ew]++ds]]) λ_ _ z=>Pe c [.ah []] (an (sq (f:=[ak c,cy ew]) (bJ rfl) h) z)
theorem Y8(h:ds.length<=1000)(h':es.length<=1000):ao 2 4 [.ah []] [.str Mp,.tuple [.tuple ds,.tuple [],.tuple es]] (.val .none) [.ah<|ds++es]:=
 ao.go [.bw 0 (.val .none) [.ah ds],.bw 0 (.val .none) [.ah<|ds++es]] λ_ _ z=>an (sq (f:=[]) (bQ _) h) (an (sq (aj h aa) h') z)
theorem Zf(h:ds.length<=1000)(h':es.length<=1000):ao 2 4 [.ah []] [.str Mx,.tuple [ak c,.tuple [.tuple [bO (.int 1),.tuple ds],.tuple [.none,.tuple es],.tuple [bO (.int 2),.tuple [fY ae]]]]] (.val .none) [.ah<|(((([ak c]++[bO<|.int 1])++ds)++es)++[bO<|.int 2])++[fY ae]]:=
 have l1:(([ak c]++[bO<|.int 1])++ds).length<=2+1000:=qj (aF 2) h
 ao.go (pe 0 (ak c)++[.call (.val<|.str kN) [],.call (.val .none) [.ah<|([ak c]++[bO<|.int 1])++ds],.call (.val<|.str kN) [],.call (.val .none) [.ah<|(([ak c]++[bO<|.int 1])++ds)++es],.call (.val<|.str kN) [],.call (.val .none) [.ah<|(((([ak c]++[bO<|.int 1])++ds)++es)++[bO<|.int 2])++[fY ae]]]) (λk hk z=>Pe c [.ah []]<|an (pQ k hk) (an (qe (c:=.lit<|.int 1) (f:=[ak c]) (bJ rfl) h k hk)<|an (pQ k hk) (an (YW (f:=([ak c]++[bO<|.int 1])++ds) (aj l1 aa) h' k hk)
   (an (pQ k hk)<|an (qe (c:=.lit<|.int 2) (f:=(([ak c]++[bO<|.int 1])++ds)++es) (ds:=[fY ae]) (aj (qj l1 h') aa) (bJ rfl) k hk) z))))
theorem Zn(h:ds.length<=1000):ao 2 4 [.ah []] [.str pX,.tuple [.tuple [.tuple [ak c,.tuple ds]],.none]] (.val .none) [.ah<|[ak c]++ds]:=
 ao.go [.call (.val<|.str kN) [],.call (.val .none) [.ah<|[ak c]++ds]] λk hk z=>an (pQ k hk) (an (qe (c:=c) (f:=[]) (bQ _) h k hk) z)
theorem Zm(h:ds.length<=1000)(ho:o.length<=1000):ao 2 4 [.ah []] [.str pX,.tuple [.tuple [.tuple [ak c,.tuple ds]],.tuple o]] (.val .none) [.ah<|([ak c]++ds)++o]:=
 ao.go [.call (.val<|.str kN) [],.call (.val .none) [.ah<|[ak c]++ds],.bw 0 (.val .none) [.ah<|([ak c]++ds)++o]] λk hk z=>an (pQ k hk) (an (qe (c:=c) (f:=[]) (bQ _) h k hk)<|an (sq (f:=[ak c]++ds) (aj (qj (f:=[ak c]) (aF 1) h) aa) ho) z)
theorem Zl(h:ds.length<=1000)(h':es.length<=1000):ao 2 4 [.ah []] [.str pX,.tuple [.tuple [.tuple [ak c,.tuple ds],.tuple [ak a,.tuple es]],.none]] (.val .none) [.ah<|(([ak c]++ds)++[ak a])++es]:=
 ao.go [.call (.val<|.str kN) [],.call (.val .none) [.ah<|[ak c]++ds],.call (.val<|.str kN) [],.call (.val .none) [.ah<|(([ak c]++ds)++[ak a])++es]] λk hk z=>an (pQ k hk) (an (qe (c:=c) (f:=[]) (bQ _) h k hk)<|an (pQ k hk) (an (qe (c:=a) (f:=[ak c]++ds) (aj (qj (f:=[ak c]) (aF 1) h) aa) h' k hk) z))
theorem Zk(h:ds.length<=1000)(h':es.length<=1000)(ho:o.length<=1000):ao 2 4 [.ah []] [.str pX,.tuple [.tuple [.tuple [ak c,.tuple ds],.tuple [ak a,.tuple es]],.tuple o]] (.val .none) [.ah<|((([ak c]++ds)++[ak a])++es)++o]:=
 have l1:([ak c]++ds).length<=1+1000:=qj (aF 1) h
 ao.go [.call (.val<|.str kN) [],.call (.val .none) [.ah<|[ak c]++ds],.call (.val<|.str kN) [],.call (.val .none) [.ah<|(([ak c]++ds)++[ak a])++es],.bw 0 (.val .none) [.ah<|((([ak c]++ds)++[ak a])++es)++o]] λk hk z=>an (pQ k hk) (an (qe (c:=c) (f:=[]) (bQ _) h k hk)<|an (pQ k hk) (an (qe (c:=a) (f:=[ak c]++ds) (aj l1 aa) h' k hk)<|an (sq (f:=(([ak c]++ds)++[ak a])++es) (aj (qj (qj l1 b1) h') aa) ho) z))
end
theorem qJ:∀b:af S,(av b).length=b.length
 |[]=>rfl|_::b=>ay Av (qJ b)
theorem bR.len{h:ai}{b:af S}(o:bR ae h b):b.length<=4:=by
 cases o with
 |nil=>exact bQ 4|cons _ _ h=>exact bG (h rfl)
section
variable{k h₀ n:ai}{e e':E}{b b' x y o:af S}{ds:af V}{z:az}
theorem jS{h:aq}{tl:af V}(hl:kD tl.length 10=ae)(rs:Rs):e9 (.val<|.tuple (.str h::tl)) (.int 0) rs=ab (.val<|.str h):=
 Cq aa (oA.mpr<|sN _) (aj (bG<|bJ hl) aa) rfl
theorem Pr.st{h r:aq}{tl:af V}(hk:3<=k)(hl:kD tl.length 10=ae)(h1:(dM fC h||dM jN h)=ag)(h2:(dM wo h||dM tJ h)=ag)(hp:ao 2 4 [.ah []] [.str r,.tuple tl] (.val .none) [.ah ds])(hr:ao 2 1 [] [.tuple<|.str h::tl] (.val<|.str r) [])(p:Pr k ds z n):Pr k [.tuple<|.str h::tl] z (n+1):=
 Pr.go (jS hl) ⟨h1,h2⟩ (gU hl hp hr) hk p
theorem By{v:V}(e:∀k,dK (b5 a8 k) (dQ a8) Ih [] (slots [ag] 0 [v]++eW 1 aw) [] (λfl rs _ _=>a6 0 fl rs=ab (.val (.str pX),[]))=(ab (MV.val (.str pX),([]:Rs))=ab (.val (.str pX),[]))):ao 2 1 [] [v] (.val<|.str pX) []:=(ao.go (n:=0) [] (λ_ _ z=>z) (e:=e)).aU aa
noncomputable def Sz(h:ai):ai:=16*h+16
theorem Pr.add{us vs:af V}{y z:az}{h:ai}(p:Pr k us y (Sz h+11))(q:Pr k vs z (Sz h))(hu:us.length<=11):Pr k (us++vs) (y||z) (Sz h+11):=p.dq q (aj (dP hu _)<|bA (l7 11 _))
end
section
variable{k:ai}
theorem aek{h:ai}:5*h+5<=Sz h:=cQ (ai4 h aa) aa
theorem bl{l m:af V}{i j n:ai}(h:l.length<=i)(h':m.length<=j)(e:kD (i+j) n=ae):(l++m).length<=n:=aj (qj h h') (bJ e)
theorem Pr.body{h:ai}{b:af S}(hk:3<=k)(o:bR ae h b):Pr k (av b) (YB b) (16*h+12+b.length):=by
 have E:∀{h:ai}{e:E},aL ae h e->Pr k [Mine.L.ak e] (Y e) (Sz h):=λo=>(Pr.ak hk o).le aek
 have B:∀{h:ai}{b:af S},bR ae h b->Pr k (av b) (YB b) (16*h+12+b.length)->Pr k (av b) (YB b) (Sz h):=λo p=>p.le (bK o.len _)
 have L:∀{h:ai}{b:af S},bR ae h b->(av b).length<=4:=λo=>qJ _▸o.len
 have L':∀{h:ai}{b:af S},bR ae h b->(av b).length<=1000:=λo=>aj (qJ _▸o.len) aa
 have up:∀{h:ai}{vs:af V}{z:az},Pr k vs z (Sz h)->Pr k vs z (Sz h+11):=λp=>p.le (aW _ 11)
 have jp:∀j,Pr k [fY j] ag 1:=λj=>by
  cases j<;>exact Pr.st (n:=0) hk rfl rfl rfl (FH<|.int 1) (e8 λk=>by kernel_rfl) Pr.nil
 have a6:∀{h:ai}{vs:af V}{z:az},Pr k vs z (Sz h+11+1)->Pr k vs z (16*(h+1)+12):=λp=>p.le (aF _)
 have bh:∀h,1<=Sz h:=λh=>bG (bQ _)
 refine bR.rec (c:=ae) (motive_1:=λh x _=>Pr k [aM x] (YS x)<|16*h+12) (motive_2:=λh b _=>Pr k (av b) (YB b)<|16*h+12+b.length) ?_ ?_ ?_ ?_ ?_ ?_ ?_ ?_ ?_ ?_ ?_ ?_ ?_ ?_ ?_ ?_ o
 ·exactλoe=>a6 (Pr.st hk rfl rfl rfl FG (e8 λk=>by kernel_rfl)<|up (E oe))
 ·exactλ{h e} oe=>a6 (Pr.st hk rfl rfl rfl (BO (ds:=[Mine.L.ak e])<|bJ rfl) (e8 λk=>by kernel_rfl)<|up (E oe))
 ·exactλ{h a b} oa ob=>a6 (Pr.st hk rfl rfl rfl (BO (ds:=[Mine.L.ak a,Mine.L.ak b])<|bJ rfl) (e8 λk=>by kernel_rfl)<|(up<|E oa).add (E ob) (bJ rfl))
 ·exactλ{h j}=>(jp j).le (bG<|bQ _)
 ·exactλ{h}=>(Pr.st (n:=0) hk rfl rfl rfl Zg (e8 λk=>by kernel_rfl) Pr.nil).le (bG<|bQ _)
 ·exactλoe=>a6 (Pr.st hk rfl rfl rfl FG (e8 λk=>by kernel_rfl)<|up (E oe))
 ·exactλob ib=>a6 (Pr.st hk rfl rfl rfl (BO<|aj (L ob) aa) (e8 λk=>by kernel_rfl)<|up (B ob ib))
 ·intro h e b o p oe ob oo ho ib io
  have q:=(up<|E oe).add (B ob ib) (bJ rfl)
  cases p with
  |true=>exact(a6<|Pr.st hk rfl rfl rfl (Zm (L' ob)<|L' oo) (By λk=>by kernel_rfl) (q.add (B oo io)<|bl b1 (L ob) rfl)).eq (xR _ _ _)
  |false=>
   rw[ho rfl]
   exact(a6<|Pr.st hk rfl rfl rfl (Zn<|L' ob) (By λk=>by kernel_rfl) q).eq (ay (Y e||·) (cJ<|YB b).symm)
 ·intro h e b e' b' o p oe ob ey fX oo ho ib cV io
  have l1:=bl (n:=5) (b1 (v:=Mine.L.ak e)) (L ob) rfl
  have l2:=bl (n:=6) l1 (b1 (v:=Mine.L.ak e')) rfl
  have q:=(((up<|E oe).add (B ob ib)<|bJ rfl).add (E ey)<|aj l1 aa).add (B fX cV) (aj l2 aa)
  cases p with
  |true=>exact(a6<|Pr.st hk rfl rfl rfl (Zk (L' ob) (L' fX)<|L' oo) (By λk=>by kernel_rfl) (q.add (B oo io)<|bl l2 (L fX) rfl)).eq ((ay (·||YB o)<|xR _ _ _).trans (xR _ _ _))
  |false=>
   rw[ho rfl]
   exact(a6<|Pr.st hk rfl rfl rfl (Zl (L' ob)<|L' fX) (By λk=>by kernel_rfl) q).eq ((xR _ _ _).trans (ay ((Y e||YB b)||·) (cJ<|Y e'||YB b').symm))
 ·exactλoe ob ib=>a6 (Pr.st hk rfl rfl rfl (Zb<|L' ob) (e8 λk=>by kernel_rfl)<|(up<|E oe).add (B ob ib) (bJ rfl))
 ·exactλoe ob ib=>a6 (Pr.st hk rfl rfl rfl (Y7<|L' ob) (e8 λk=>by kernel_rfl)<|(up<|B ob ib).add (E oe) (aj (L ob) aa))
 ·exactλ{h sa sb a d b} oe ob ib=>a6 (Pr.st hk rfl rfl rfl (Za<|L' ob) (e8 λk=>by kernel_rfl)<|(oz [Mine.L.ak<|.bi (.bS sa sb) a d] [cy ew]<|av b)▸(((up<|E oe).add ((Pr.var hk<|bh h):Pr k [cy ew] ag (Sz h))<|bJ rfl).add (B ob ib)<|bJ rfl).eq (ay (·||YB b)<|cJ _))
 ·intro h e x y oe ox oy ix iy
  have l1:=bl (n:=6) (l:=[Mine.L.ak e]++[bO<|.int 1]) (aF 2) (L ox) rfl
  have l2:=bl (n:=10) l1 (L oy) rfl
  exact(a6<|Pr.st hk rfl rfl rfl (Zf (L' ox)<|L' oy) (e8 λk=>by kernel_rfl) ((((((up<|E oe).add (Pr.lit hk<|bh h)<|bJ rfl).add (B ox ix)<|bJ rfl).add (B oy iy)<|aj l1 aa).add (Pr.lit hk<|bh h)<|aj l2 aa).add ((jp ae).le<|bh h)<|bl l2 b1 rfl)).eq
   ((cJ _).trans ((cJ _).trans ((ay (λz=>(z||YB x)||YB y)<|cJ (Y e)).trans (xR _ _ _))))
 ·exactλob fX ib cV=>a6 (Pr.st hk rfl rfl rfl (Y8 (L' ob)<|L' fX) (e8 λk=>by kernel_rfl)<|(up<|B ob ib).add (B fX cV) (aj (L ob) aa))
 ·exact Pr.nil
 ·exactλ{h x r} ox or hr ix ir=>(ix.le<|aW _ r.length).cons ir
end
theorem nS(x:S)(rs:Rs):cv .is (.val<|aM x) (.val .none) rs=ab ag:=by
 cases x with
 |fk k=>cases k<;>rfl|_=>rfl
theorem L6{h:ai}{x:S}(o:fH ae h x)(hh:h<=5000):ao 5 7 [] [aM x] (.val<|.bool (YS x)) []:=
 DZ (nS x []) (aj (dP (lA 16 hh) 13) aa) λk hk=>(Pr.body hk (.cons o .nil λ_=>bQ 3):Pr k [aM x] (YS x||ag) (16*h+13)).eq (cJ _)
theorem FN(s:String):(fU s).cps.toList=s.toList.map q0:=cpsOfBytes_string s
theorem Gf{α β:Type}{f:α->β}(hf:∀a b,f a=f b->a=b):∀{l m:af α},l.map f=m.map f->l=m
 |[],[],_=>rfl|[],_::_,h=>nomatch h|_::_,[],h=>nomatch h|a::l,b::m,h=>by
  have h:=Jt h
  rw[hf a b h.1,Gf hf h.2]
theorem EG(k:ai):(aG k).cps.toList=35::(toString (k:aH)).toList.map q0:=(z0 _ _).trans (ay (Ju 35)<|FN _)
theorem EH{i j:ai}(h:aG i=aG j):i=j:=
 have h1:=(EG i).symm.trans ((ay (λs:aq=>s.cps.toList) h).trans (EG j))
 ai1.mp (show Ji i=Ji j from ahv.mp<|Gf (λ_ _ e=>Tu.mp e) (Jt h1).2)
theorem adj{c:ai}{l:af ai}:fj (c::l) aw (ab 1)=[c]:=by
 show pA (clipAt (l.length+1) 1-0) (c::l)=[c]
 rw[QF];rfl
theorem GP{x:aq}{c:ai}{l:af ai}(h:x.cps.toList=c::l):fu x=decide (c=35):=by
 show(fj x.cps.toList aw (ab 1)==[35])=_
 rw[h,adj]
 exact ajI _
theorem oI(k:ai):fu (aG k)=ae:=GP (EG k)
theorem zM(k:ai):(cP k).cps.toList=105::(toString (k:aH)).toList.map q0:=(z0 _ _).trans (ay (Ju 105)<|FN _)
theorem Nm.QI{x:aq}(h:Nm ae x):fu x=ag/\dM x oN=ag:=by
 rcases h with h|⟨k,_,rfl⟩|⟨h,_⟩
 ·simp only [gX,dX,gA,or_false] at h
  rcases h with rfl|rfl|rfl|rfl|rfl<;>exact⟨aa,aa⟩
 ·refine⟨GP (zM k),?_⟩
  show((cP k).cps.toList==oN.cps.toList)=ag
  rw[zM];rfl
 ·cases h
theorem Nm.T{x:aq}(h:Nm ae x):fu x=ag:=h.QI.1
theorem Nm.VD{x:aq}(h:Nm ae x):lF (.var x)=ag:=by
 show(dM x oN||fu x)=ag
 rw[h.QI.2,h.T];rfl
theorem mJ:fu bz=ag:=aa
theorem aad{x:aq}{k:ai}(h:fu x=ag):aG k≠x:=λe=>ed ((h.symm.trans (ay fu e).symm).trans (oI k))
section
def St.er(s:St):St:={s with vars:=s.vars.filter λp=>!fu p.1}
noncomputable def St.val(s:St)(x:aq):aD V:=s.vars.lookup x
noncomputable def hJ(p:V×St):V×St:=(p.1,p.2.er)
def dN(N:ai)(s t:St):Prop:=∀k,k<=N->t.val (aG k)=s.val (aG k)
def dE(s t:St):Prop:=∀k,t.val (aG k)=s.val (aG k)
end
section
variable{p:aq->az}{x k:aq}{v:V}
theorem tW{l:af (aq×V)}{q:aq×V}(h:x=q.1):(q::l).lookup x=ab q.2:=by
 show(match x==q.1 with|true=>ab q.2|false=>l.lookup x)=_
 rw[h,beq_self_eq_true]
theorem rS{l:af (aq×V)}{q:aq×V}(h:¬x=q.1):(q::l).lookup x=l.lookup x:=by
 show(match x==q.1 with|true=>ab q.2|false=>l.lookup x)=_
 rw[beq_false_of_ne h]
theorem NU(h:p x=ae):∀l:af (aq×V),(l.filter λq=>p q.1).lookup x=l.lookup x
 |[]=>rfl|q::l=>by
  rw[mW]
  by_cases hk:x=q.1
  ·rw[a9 (hk▸h),tW hk,tW hk]
  ·rw[rS hk,<-NU h l]
   exact aO (λm:af (aq×V)=>m.lookup x=_) (λ_=>rS hk) λ_=>rfl
theorem C2(x:aq):∀l:af (aq×V),l.any (λp=>p.1==x)=(l.lookup x).isSome
 |[]=>rfl|q::l=>by
  rw[To]
  by_cases hk:x=q.1
  ·rw[tW hk,hk,beq_self_eq_true];rfl
  ·rw[rS hk,C2 x l,beq_false_of_ne<|Ne.symm hk];rfl
theorem YG{l:af (aq×V)}(h:l.any (λkv=>kv.1=k)=ae):i8 l k v=l.map λkv=>if kv.1=k then(kv.1,v) else kv:=a9 h
theorem aaR{l:af (aq×V)}(h:l.any (λkv=>kv.1=k)=ag):l.lookup k=aw:=by
 induction l with
 |nil=>rfl|cons q l ih=>
  have h:=ajF.mp h
  rw[rS λe=>of_decide_eq_false h.1 e.symm];exact ih h.2
theorem aaU(l:af (aq×V))(hx:¬x=k):(l.map λkv=>if kv.1=k then(kv.1,v) else kv).lookup x=l.lookup x:=by
 induction l with
 |nil=>rfl|cons q l ih=>
  have e:(if q.1=k then(q.1,v) else q).1=q.1:=aO (λr:aq×V=>r.1=q.1) (λ_=>rfl) λ_=>rfl
  rw[mV]
  by_cases hk:x=q.1
  ·rw[tW (hk.trans e.symm),tW hk,br λz=>hx<|hk.trans z]
  ·rw[rS λz=>hk (z.trans e),rS hk,ih]
theorem aaT{l:af (aq×V)}(h:l.any (λkv=>kv.1=k)=ae):(l.map λkv=>if kv.1=k then(kv.1,v) else kv).lookup k=ab v:=by
 induction l with
 |nil=>cases h|cons q l ih=>
  rw[mV]
  by_cases hk:q.1=k
  ·rw[a9 hk,tW (q:=(q.1,v)) hk.symm]
  ·rw[br hk,rS<|Ne.symm hk]
   exact ih ((q5.mp h).resolve_left λz=>hk<|eV z)
theorem aaP(l:af (aq×V)):(i8 l k v).lookup k=ab v:=by
 cases h:l.any (λkv=>kv.1=k) with
 |true=>rw[YG h];exact aaT h|false=>
  rw[show i8 l k v=l++[(k,v)] from br (cz.mp h),ajo,aaR h,Option.none_or]
  exact tW (q:=(k,v)) rfl
theorem aaQ(l:af (aq×V))(hx:¬x=k):(i8 l k v).lookup x=l.lookup x:=
 aO (λm:af (aq×V)=>m.lookup x=l.lookup x) (λ_=>aaU l hx) λ_=>by
  rw[ajo,rS (q:=(k,v)) hx];exact Option.or_none
theorem RC(h:p k=ae):∀l:af (aq×V),(l.filter λq=>p q.1).any (λkv=>kv.1=k)=l.any (λkv=>kv.1=k)
 |[]=>rfl|q::l=>by
  rw[mW,To,<-RC h l]
  by_cases hq:p q.1=ae
  ·rw[a9 hq];rfl
  ·rw[br hq,uR<|show ¬q.1=k fromλe=>hq (e.symm▸h)];rfl
theorem NM(h:p k=ae):∀l:af (aq×V),(l.map λkv=>if kv.1=k then(kv.1,v) else kv).filter (λq=>p q.1)=(l.filter λq=>p q.1).map λkv=>if kv.1=k then(kv.1,v) else kv
 |[]=>rfl|q::l=>by
  have e:(if q.1=k then(q.1,v) else q).1=q.1:=aO (λr:aq×V=>r.1=q.1) (λ_=>rfl) λ_=>rfl
  rw[mV,mW,mW,NM h l,e]
  by_cases hq:p q.1=ae
  ·rw[a9 hq,a9 hq];rfl
  ·rw[br hq,br hq]
theorem NL(h:p k=ag):∀l:af (aq×V),(l.map λkv=>if kv.1=k then(kv.1,v) else kv).filter (λq=>p q.1)=l.filter λq=>p q.1
 |[]=>rfl|q::l=>by
  rw[mV,mW,mW,NL h l]
  by_cases hq:q.1=k
  ·rw[a9 hq,br (cz.mp<|(ay p hq).trans h),br<|cz.mp ((ay p hq).trans h)]
  ·rw[br hq]
theorem WC(h:p k=ae)(l:af (aq×V)):(i8 l k v).filter (λq=>p q.1)=i8 (l.filter λq=>p q.1) k v:=by
 unfold i8
 rw[RC h]
 refine aO (λm:af (aq×V)=>m.filter (λq=>p q.1)=_) (λq=>?_) λq=>?_
 ·rw[a9 q];exact NM h l
 ·rw[br q,ajv,mW,a9 h];rfl
theorem WA(h:p k=ag)(l:af (aq×V)):(i8 l k v).filter (λq=>p q.1)=l.filter λq=>p q.1:=
 aO (λm:af (aq×V)=>m.filter (λq=>p q.1)=l.filter λq=>p q.1) (λ_=>NL h l) λ_=>by
  rw[ajv,mW,br<|cz.mp h];exact fy _
end
section
variable{s t u:St}{x y:aq}{v w d:V}
theorem CN(h:fu x=ag):s.er.val x=s.val x:=NU (p:=λy=>!fu y) (show(!fu x)=ae from ay (!·) h) s.vars
theorem k8(h:fu x=ag):s.er.get x=s.get x:=ay (·.getD As) (CN h)
theorem BA(s:St)(x:aq):s.rd x=if(s.val x).isSome then s else s.gj (.tuple [.str tC,.str x]):=ay (λb=>if b=ae then s else s.gj (.tuple [.str tC,.str x])) (C2 x s.vars)
theorem kZ(h:fu x=ag):(s.rd x).er=s.er.rd x:=by
 rw[BA,BA,CN h];exact apply_ite St.er _ _ _
theorem uE(h:fu x=ag):(s.bI x v).er=s.er.bI x v:=ay (λl=>{s with vars:=l}) (WC (p:=λy=>!fu y) (show(!fu x)=ae from ay (!·) h) s.vars)
theorem xd(h:fu x=ae):(s.bI x v).er=s.er:=ay (λl=>{s with vars:=l}) (WA (p:=λy=>!fu y) (show(!fu x)=ag from ay (!·) h) s.vars)
theorem zE:(s.eH w v).er=s.er.eH w v:=(uE mJ).trans (ay (λz=>s.er.bI bz<|.tuple ((cells z).set (dg w%3).toNat<|iB v)) (k8 mJ).symm)
theorem pZ:(s.bI x v).val x=ab v:=aaP s.vars
theorem wC(h:¬y=x):(s.bI x v).val y=s.val y:=aaQ s.vars h
theorem L2(y:aq):(s.rd x).val y=s.val y:=ay (Jp y) (E8 s x)
theorem dE.refl(s:St):dE s s:=λ_=>rfl
theorem dN.refl(N:ai)(s:St):dN N s s:=λ_ _=>rfl
theorem dE.trans(a:dE s t)(b:dE t u):dE s u:=λk=>(b k).trans (a k)
theorem dN.trans{N:ai}(a:dN N s t)(b:dN N t u):dN N s u:=λk h=>(b k h).trans (a k h)
theorem dE.same(a:dE s t)(N:ai):dN N s t:=λk _=>a k
theorem dN.aU{N M:ai}(a:dN N s t)(h:M<=N):dN M s t:=λk hk=>a k (aj hk h)
theorem nQ(h:fu x=ag):dE s (s.bI x v):=λk=>wC (aad h)
theorem kM:dE s (s.rd x):=λk=>L2 _
theorem yC{n N:ai}(h:N<n):dN N s (s.bI (aG n) v):=λk hk=>wC λe=>nK.mpr hk (EH e▸h)
theorem fD{α β:Type}{a a':α}{b b':β}(h:a=a')(h':b=b'):(a,b)=(a',b'):=h▸h'▸rfl
theorem Rz{q:U}(hq:nJ ae q)(v:V)(s:St):hJ (eO q v s)=eO q v s.er:=by
 cases q with
 |aN x=>exact fD rfl (uE hq.T)|op p x=>
  have g:=k8 (s:=s) hq.T
  exact(fD rfl ((uE hq.T).trans (ay (·.bI x (fP (ng p) (s.get x) v))<|kZ hq.T))).trans (ay (λz=>(fP (ng p) z v,(s.er.rd x).bI x<|fP (ng p) z v)) g.symm)
 |_=>rfl
theorem Rx{q:U}(hq:nJ ae q)(v:V)(s:St):dE s (eO q v s).2:=by
 cases q with
 |aN x=>exact nQ hq.T|op p x=>exact kM.trans (nQ hq.T)|_=>exact dE.refl s
theorem Ip(q:W)(v w:V)(s:St):hJ (fG q v w s)=fG q v w s.er:=by
 cases q with
 |d8=>exact fD rfl zE|fW p=>
  have g:=k8 (s:=s) mJ
  exact(fD rfl (zE.trans<|ay (·.eH v (fP (ng p) (dD (s.get bz) v) w)) (kZ mJ))).trans (ay (λz=>(fP (ng p) (dD z v) w,(s.er.rd bz).eH v<|fP (ng p) (dD z v) w)) g.symm)
 |_=>rfl
theorem Io(q:W)(v w:V)(s:St):dE s (fG q v w s).2:=by
 cases q with
 |d8=>exact nQ mJ|fW p=>exact kM.trans (nQ mJ)|_=>exact dE.refl s
theorem lR{p:Prop}[Decidable p]{a b a' b':V×St}(h:hJ a=a')(h':hJ b=b'):hJ (if p then a else b)=if p then a' else b':=h▸h'▸apply_ite hJ p a b
end
theorem kt{h:ai}{e:E}(o:aL ae h e):∀s,hJ (ev e s)=ev e s.er:=by
 induction o with
 |lit _=>exactλs=>rfl|var q=>exactλs=>fD (k8 q.T).symm (kZ q.T)|y0=>exactλs=>rfl|@dW _ p x q=>
  exactλs=>
  have F:=λ(z:V)(t:St)=>(fD rfl (ay St.jH<|uE q.T):hJ ((if p then iq (dg z+1) else z),(t.bI x<|.int (dg z+1)).jH)=((if p then iq (dg z+1) else z),(t.er.bI x<|.int (dg z+1)).jH))
  (F (s.get x)<|s.rd x).trans (ay (λz:V×St=>((if p then iq (dg z.1+1) else z.1),(z.2.bI x<|.int (dg z.1+1)).jH))<|fD (k8 q.T).symm (kZ q.T))
 |@un _ u e hu _ ih=>exactλs=>(Rz hu _ _).trans (ay (λp:V×St=>eO u p.1 p.2)<|ih s)|@bi _ w a b _ _ aE aJ=>exactλs=>((Ip w _ _ _).trans (ay (λp:V×St=>fG w (ev a s).1 p.1 p.2)<|aJ _)).trans (ay (λp:V×St=>fG w p.1 (ev b p.2).1 (ev b p.2).2)<|aE s)|@la _ l a b _ _ aE aJ=>
  exactλs=>lR
   ((ay (λp:V×St=>(gu l p.1 (ev b s).1,p.2))<|aE _).trans (ay (λq:V×St=>(gu l (ev a q.2).1 q.1,(ev a q.2).2))<|aJ s))
   ((ay (λp:V×St=>(gu l (ev a s).1 p.1,p.2))<|aJ _).trans (ay (λq:V×St=>(gu l q.1 (ev b q.2).1,(ev b q.2).2))<|aE s))
 |@cN _ o a b _ _ aE aJ=>exactλs=>(lR (a:=(.bool o,(ev a s).2)) (b:=(.bool (bF (ev b (ev a s).2).1),(ev b (ev a s).2).2)) rfl (ay (λp:V×St=>(mU (bF p.1),p.2))<|aJ _)).trans (ay (λp:V×St=>if bF p.1=o then(mU o,p.2) else(mU (bF (ev b p.2).1),(ev b p.2).2))<|aE s)|@bW _ a b oa _ _ aE aJ=>
  intro s
  have k:hJ (if cu a then(s.get (d5 a),s) else ev a s)=if cu a then(s.er.get (d5 a),s.er) else ev a s.er:=by
   cases hv:cu a with
   |true=>exact fD (k8 (m4 oa hv).T).symm rfl|false=>exact aE s
  exact(lR (aJ _) rfl).trans (ay (λp:V×St=>if dS p.1 then ev b p.2 else p) k)
 |@c7 _ a b _ _ aE aJ=>exactλs=>(lR rfl (aJ _)).trans (ay (λp:V×St=>if bF p.1 then p else ev b p.2)<|aE s)|@c6 _ a b d _ _ _ aE aJ gW=>exactλs=>(lR (aJ _)<|gW _).trans (ay (λp:V×St=>if bF p.1 then ev b p.2 else ev d p.2)<|aE s)|@dz _ x e q _ ih=>exactλs=>(lR ((fD rfl (uE q.T)).trans (ay (λp:V×St=>(p.1,p.2.bI x p.1))<|ih s)) rfl).trans (ay (λz:V=>if dS z then((ev e s.er).1,(ev e s.er).2.bI x (ev e s.er).1) else(z,s.er)) (k8 q.T).symm)|@c8 _ a b _ _ aE aJ=>
  intro s
  have F:=λp:V×St=>((lR ((fD rfl zE).trans (ay (λq:V×St=>(q.1,q.2.eH p.1 q.1))<|aJ p.2)) rfl).trans (ay (λz:V=>if dS (dD z p.1) then((ev b p.2.er).1,(ev b p.2.er).2.eH p.1 (ev b p.2.er).1) else(dD z p.1,p.2.er)) (k8 (s:=p.2) mJ).symm):
   hJ (if dS (dD (p.2.get bz) p.1) then((ev b p.2).1,(ev b p.2).2.eH p.1 (ev b p.2).1) else(dD (p.2.get bz) p.1,p.2))=_)
  exact(F<|ev a s).trans (ay (λp:V×St=>if dS (dD (p.2.get bz) p.1) then((ev b p.2).1,(ev b p.2).2.eH p.1 (ev b p.2).1) else(dD (p.2.get bz) p.1,p.2))<|aE s)
 |@cZ _ e w v oe _ _ ih=>
  intro s
  cases hv:cu e with
  |true=>
   have hx:=(m4 oe hv).T
   have hv:=rZ hv
   generalize d5 e=q at hx hv
   subst hv
   exact(lR (fD rfl (kZ hx))<|lR (fD rfl ((kZ hx).trans (ay (·.rd q)<|kZ hx))) (fD rfl ((kZ hx).trans (ay (·.rd q)<|kZ hx)))).trans
    (ay (λz=>if cD z w then(iq 7,s.er.rd q) else if cD z v then(.int 7,(s.er.rd q).rd q) else(.int 8,(s.er.rd q).rd q)) (k8 hx).symm)
  |false=>
   have E:∀t,ev (.cZ e w v) t=(if cD (ev e t).1 w||cD (ev e t).1 v then .int 7 else .int 8,(ev e t).2):=λt=>br (cz.mp hv)
   rw[E,E]
   exact ay (λp:V×St=>((if cD p.1 w||cD p.1 v then .int 7 else .int 8:V),p.2)) (ih s)
theorem kX{h:ai}{e:E}(o:aL ae h e):∀s,dE s (ev e s).2:=by
 induction o with
 |lit _=>exact dE.refl|var q=>exactλs=>kM|y0=>exact dE.refl|dW q=>exactλs=>kM.trans (nQ q.T)|un hu _ ih=>exactλs=>(ih s).trans (Rx hu _ _)|bi _ _ aE aJ=>exactλs=>((aE s).trans (aJ _)).trans (Io _ _ _ _)|la _ _ aE aJ=>exactλs=>aO (λp:V×St=>dE s p.2) (λ_=>(aJ s).trans (aE _)) λ_=>(aE s).trans (aJ _)|cN _ _ aE aJ=>exactλs=>aO (λp:V×St=>dE s p.2) (λ_=>aE s) λ_=>(aE s).trans (aJ _)|@bW _ a b oa _ _ aE aJ=>
  intro s
  have k:dE s (if cu a then(s.get (d5 a),s) else ev a s).2:=aO (λp:V×St=>dE s p.2) (λ_=>dE.refl s) λ_=>aE s
  exact aO (λp:V×St=>dE s p.2) (λ_=>k.trans<|aJ _) λ_=>k
 |c7 _ _ aE aJ=>exactλs=>aO (λp:V×St=>dE s p.2) (λ_=>aE s) λ_=>(aE s).trans (aJ _)|c6 _ _ _ aE aJ gW=>exactλs=>aO (λp:V×St=>dE s p.2) (λ_=>(aE s).trans (aJ _)) λ_=>(aE s).trans (gW _)|dz q _ ih=>exactλs=>aO (λp:V×St=>dE s p.2) (λ_=>(ih s).trans (nQ q.T)) λ_=>dE.refl s|c8 _ _ aE aJ=>exactλs=>aO (λp:V×St=>dE s p.2) (λ_=>((aE s).trans (aJ _)).trans (nQ mJ)) λ_=>aE s|cZ _ _ _ ih=>exactλs=>aO (λp:V×St=>dE s p.2) (λ_=>aO (λp:V×St=>dE s p.2) (λ_=>kM) λ_=>aO (λp:V×St=>dE s p.2) (λ_=>kM.trans kM) λ_=>kM.trans kM) λ_=>ih s
theorem WK(x:aD (Sg×St))(f g:St->aD (Sg×St)):fO (fO x f) g=fO x (λs=>fO (f s) g):=by
 cases x with
 |none=>rfl|some p=>cases p with|mk a t=>cases a<;>rfl
theorem yD:∀(a b:af S)(s:St),run (a++b) s=fO (run a s) (run b)
 |[],_,_=>rfl|x::r,b,s=>(ay (fO<|g6 x s)<|funext λt=>yD r b t).trans (WK (g6 x s) (run r)<|run b).symm
section
variable{a b o:af S}{x:S}{s t u:St}{n N k:ai}{e:E}{v w:V}
theorem Bw(h:run a s=ab (.nx,t)):run (a++b) s=run b t:=(yD a b s).trans (ay (λz=>fO z<|run b) h)
theorem yx(y:aD (Sg×St)):fO y (run [])=y:=by
 cases y with
 |none=>rfl|some p=>cases p with|mk g t=>cases g<;>rfl
theorem nR(h:run o s=ab (.nx,t)):run (o++[x]) s=g6 x t:=(Bw h).trans (yx<|g6 x t)
theorem vX{q:aq}(h:run o s=ab (.nx,t)):run (o++[cB q e]) s=ab (.nx,(ev e t).2.bI q (ev e t).1):=nR h
theorem LR(c:E)(b:af S)(s:St):g6 (eA c b) s=if bF (ev c s).1 then run b (ev c s).2 else ab (.nx,(ev c s).2):=rfl
theorem kW{q:aq}(h:s.val q=ab v):ev (.var q) s=(v,s):=
 fD (ay (·.getD As) h) ((BA s q).trans (a9<|ay sM h))
theorem acS{q:aq}(h:s.val q=ab v):s.get q=v:=ay (·.getD As) h
end
theorem zb(late:az)(h:H):h.n<=(keep late h).n:=aO (λq:H=>h.n<=q.n) (λ_=>aF _) λ_=>aR _
theorem tO{f:E->E->E}{late yb:az}{b:E}{ha:H}{hb:ai->H}{n:ai}(h:n<=ha.n)(h':∀k,k<=(hb k).n):n<=(pr f late yb b ha hb).n:=
 aO (λq:H=>n<=q.n) (λ_=>aj h<|aj (zb late ha) (h' _)) λ_=>h
theorem CU(a:E)(h:H):(ij a h).n=h.n:=aO (λq:H=>q.n=h.n) (λ_=>rfl) λ_=>rfl
theorem Lg(sp:az)(h:H):(kL sp h).n=h.n:=aO (λq:H=>q.n=h.n) (λ_=>rfl) λ_=>rfl
theorem dI(e:E):∀n,n<=(hv e n).n:=by
 have l1:∀{n m:ai},n+1<=m->n<=m:=λh=>eL h
 induction e with
 |lit d=>exactλn=>aF n|var x=>exactλn=>aF n|y0=>exactλn=>aR n|dW p x=>exactλn=>aF n|un u e ih=>exactλn=>aO (λq:H=>n<=q.n) (λ_=>l1<|ih (n+1)) λ_=>ih n|bi w a b aE aJ=>
  intro n
  cases w with
  |y2=>exact l1 (tO (aE<|n+1) aJ)|bS sa sb=>exact tO (Lg _ (hv a n)▸aE n) aJ|dY=>exact aO (λq:H=>n<=q.n) (λ_=>tO (CU a (hv a n)▸aE n) λk=>CU b (hv b k)▸aJ k) λ_=>aF n|_=>exact tO (aE n) aJ
 |la l a b aE aJ=>exactλn=>tO (aE n) aJ|cN q a b aE aJ=>exactλn=>aO (λq:H=>n<=q.n) (λ_=>l1<|aj (aE<|n+1) (aJ _)) λ_=>aE n|bW a b aE aJ=>exactλn=>aO (λq:H=>n<=q.n) (λ_=>l1<|aj (aE<|n+1) (aJ _)) λ_=>aE n|c7 a b aE aJ=>exactλn=>aO (λq:H=>n<=q.n) (λ_=>l1<|aj (aE<|n+1) (aJ _)) λ_=>aE n|c6 a b c aE aJ wZ=>exactλn=>aO (λq:H=>n<=q.n) (λ_=>l1<|aj (aE<|n+1) (aj (wZ _)<|aJ _)) λ_=>aE n|dz x e ih=>exactλn=>aO (λq:H=>n<=q.n) (λ_=>l1<|ih (n+1)) λ_=>aF n|c8 a b aE aJ=>exactλn=>aO (λq:H=>n<=q.n) (λ_=>l1<|aj (aE<|n+1) (aj (zb ag _)<|aJ _)) λ_=>aE n|cZ e w h ih=>exactλn=>ih n
inductive Kd(v:az)(n:ai)(s1:St)(h:H):Prop
 |pl:lF h.e=ag->(cu h.e=ae->v=ae)->Kd v n s1 h
 |lt (d:V):h.e=.lit d->Kd v n s1 h
 |kp (k:ai) (w:V):n<k->k<=h.n->h.e=.var (aG k)->s1.val (aG k)=ab w->Kd v n s1 h
structure eI(v:az)(p:V×St)(n:ai)(s:St)(h:H)(s1:St):Prop where
 dZ:run h.o s=ab (.nx,s1)
 keep:dN n s s1
 res:hJ (ev h.e s1)=p
 same:dE s1 (ev h.e s1).2
 kind:Kd v n s1 h
noncomputable def SX(v:az)(p:V×St)(n:ai)(s:St)(h:H):Prop:=∃s1,eI v p n s h s1
def RU(n m:ai)(s t:St):Prop:=∀k,n<k->k<=m->t.val (aG k)=s.val (aG k)
theorem dN.bt{n m:ai}{s t:St}(h:dN m s t):RU n m s t:=λk _ hk=>h k hk
structure ahs(p:V×St)(n:ai)(s:St)(h:H)(s2:St):Prop where
 dZ:run h.o s=ab (.nx,s2)
 keep:dN n s s2
 st:s2.er=p.2
 pure:∀t,RU n h.n s2 t->ev h.e t=(p.1,t)
section
variable{v:az}{p:V×St}{n m:ai}{s s1 t u:St}{h:H}{o:af S}{w:V}{e a b c x:E}
theorem eI.all(S:eI v p n s h s1):dN n s (ev h.e s1).2:=S.keep.trans (S.same.same n)
theorem eI.pl{x:E}{k:ai}(r:run o s=ab (.nx,s1))(k1:dN n s s1)(q:hJ (ev x s1)=p)(m:dE s1 (ev x s1).2)(h1:lF x=ag)(h2:cu x=ag):eI ag p n s ⟨x,k,o⟩ s1:=
 ⟨r,k1,q,m,.pl h1 λz=>dk (h2.symm.trans z) ed⟩
theorem VC(k:ai):lF (.var<|aG k)=ae:=(ay (dM (aG k) oN||·)<|oI k).trans (Jx _)
theorem eI.val(S:eI v p n s h s1):(ev h.e s1).1=p.1:=(ay fK S.res:)
theorem eI.st(S:eI v p n s h s1):(ev h.e s1).2.er=p.2:=(ay iV S.res:)
theorem yw(r:run o s=ab (.nx,t.bI (aG<|n+1) w))(hn:n+1<=m)(k:dN n s t)(q:(w,t.er)=p):eI ag p n s ⟨.var (aG<|n+1),m,o⟩ (t.bI (aG<|n+1) w):=
 have e:=kW (pZ (s:=t) (x:=aG<|n+1) (v:=w))
 ⟨r,k.trans (yC<|pz n),(ay hJ e).trans ((fD rfl (xd<|oI _)).trans q),(ay iV e).symm▸dE.refl _,.kp (n+1) w (pz n) hn rfl pZ⟩
theorem eI.mc(S:eI v p (n+1) s h s1)(hn:n+1<=h.n):SX ag p n s (kH (n+1) h):=⟨_,yw (vX S.dZ) hn (S.all.aU<|aR n) S.res⟩
theorem eI.GF{late:az}(S:eI v p n s h s1)(hn:n<=h.n)(hl:late=ae->v=ag):∃s2,ahs p n s (Mine.L.keep late h) s2:=by
 have Rm:lF h.e=ae->Mine.L.keep late h=h:=λq=>a9 (q5.mpr<|.inl q)
 cases S.kind with
 |pl h1 h2=>
  have e:Mine.L.keep late h=⟨.var (aG<|h.n+1),h.n+1,h.o++[cB (aG<|h.n+1) h.e]⟩:=br λq=>(q5.mp q).elim (λq=>ed<|h1.symm.trans q) λq=>
   have q:=dc.mp q
   ed ((hl q.1).symm.trans<|h2 q.2)
  rw[e]
  exact⟨(ev h.e s1).2.bI (aG<|h.n+1) (ev h.e s1).1,vX S.dZ,S.all.trans (yC<|SZ hn),(xd<|oI _).trans S.st,λt ht=>(kW<|(ht _ (SZ hn)<|aF _).trans pZ).trans (ay (·,t) S.val)⟩
 |lt d q=>
  rw[Rm<|q▸rfl]
  have r:=S.res
  rw[q] at r
  exact⟨s1,S.dZ,S.keep,ay iV r,λt _=>q▸fD (ay fK r) rfl⟩
 |kp k d lo hk q hd=>
  rw[Rm<|q▸VC k]
  have r:=S.res
  rw[q,kW hd] at r
  exact⟨s1,S.dZ,S.keep,ay iV r,λt ht=>q▸(kW<|(ht k lo hk).trans hd).trans (ay (·,t)<|ay fK r)⟩
theorem eI.plain{h₀:ai}(o:aL ae h₀ e)(hs:lF e=ag):eI (cu e) (ev e s.er) n s ⟨e,n,[]⟩ s:=⟨rfl,dN.refl n s,kt o s,kX o s,.pl hs id⟩
theorem eI.un{q:U}(hq:nJ ae q)(S:eI v p n s h s1):eI ag (eO q p.1 p.2) n s ⟨.un q h.e,h.n,h.o⟩ s1:=
 .pl S.dZ S.keep ((Rz hq _ _).trans (ay (λp:V×St=>eO q p.1 p.2) S.res)) (S.same.trans<|Rx hq _ _) rfl rfl
theorem zT{q:W}{h₀:ai}{yb vb:az}{hb:ai->H}(ob:aL ae h₀ b)(S:eI v p n s h s1)(hn:n<=h.n)(Sb:∀k t,t.er=p.2->SX vb (ev b p.2) k t (hb k)):SX ag (fG q p.1 (ev b p.2).1 (ev b p.2).2) n s (pr (.bi q) ag yb b h hb):=by
 cases yb with
 |true=>
  exact(S.GF (late:=ag) hn nofun).elim λs2 K=>(Sb (Mine.L.keep ag h).n s2 K.st).elim λs3 T=>
   have e:ev (.bi q (Mine.L.keep ag h).e (hb (Mine.L.keep ag h).n).e) s3=fG q p.1 (ev (hb (Mine.L.keep ag h).n).e s3).1 (ev (hb (Mine.L.keep ag h).n).e s3).2:=ay (λz:V×St=>fG q z.1 (ev (hb (Mine.L.keep ag h).n).e z.2).1 (ev (hb (Mine.L.keep ag h).n).e z.2).2) (K.pure s3 T.keep.bt)
   ⟨s3,.pl ((Bw K.dZ).trans T.dZ) (K.keep.trans<|T.keep.aU (aj hn<|zb ag h)) ((ay hJ e).trans ((Ip q _ _ _).trans (ay (λz:V×St=>fG q p.1 z.1 z.2) T.res)))
    ((ay iV e).symm▸T.same.trans (Io q _ _ _)) rfl rfl⟩
 |false=>
  exact⟨s1,.pl S.dZ S.keep (((Ip q _ _ _).trans (ay (λz:V×St=>fG q (ev h.e s1).1 z.1 z.2)<|kt ob _)).trans (ay (λz:V×St=>fG q z.1 (ev b z.2).1 (ev b z.2).2) S.res))
   ((S.same.trans<|kX ob _).trans (Io q _ _ _)) rfl rfl⟩
theorem zP{o1:af S}{x1 x2:E}{v0 vc:V}(r1:run o1 s=ab (.nx,s1))(e1:ev x1 s1=(v0,u))(k1:dN n s u)(hn:n+1<=h.n)(hc:ev c (u.bI (aG<|n+1) v0)=(vc,u.bI (aG<|n+1) v0))
  (hf:¬bF vc=ae->(v0,u.er)=p)(ht:bF vc=ae->∃s3,run h.o (u.bI (aG<|n+1) v0)=ab (.nx,s3)/\dN n (u.bI (aG<|n+1) v0) (ev x2 s3).2/\hJ (ev x2 s3)=p):SX ag p n s (d7 n o1 x1 c h x2):=by
 have r:run (o1++[cB (aG<|n+1) x1]) s=ab (.nx,u.bI (aG<|n+1) v0):=(vX r1).trans (ay (λz:V×St=>ab (Sg.nx,z.2.bI (aG<|n+1) z.1)) e1)
 have R:run (d7 n o1 x1 c h x2).o s=if bF vc then run (h.o++[cB (aG<|n+1) x2]) (u.bI (aG<|n+1) v0) else ab (.nx,u.bI (aG<|n+1) v0):=
  (nR r).trans (ay (λz:V×St=>if bF z.1 then run (h.o++[cB (aG<|n+1) x2]) z.2 else ab (Sg.nx,z.2)) hc)
 by_cases q:bF vc=ae
 ·exact(ht q).elim λs3 z=>⟨_,yw ((R.trans<|a9 q).trans (vX z.1)) hn ((k1.trans<|yC (pz n)).trans z.2.1) z.2.2⟩
 ·exact⟨_,yw (R.trans<|br q) hn k1<|hf q⟩
end
section
noncomputable def tE:E->ai
 | .lit _=>1| .var _=>1| .y0=>1| .dW _ _=>1| .un _ e=>tE e+1| .bi _ a b=>tE a+tE b+3| .la _ a b=>tE a+tE b+2| .cN _ a b=>tE a+tE b+2| .bW a b=>tE a+tE b+2| .c7 a b=>tE a+tE b+2| .c6 a b c=>tE a+tE c+tE b+2| .dz _ e=>tE e+2| .c8 a b=>tE a+tE b+3| .cZ e _ _=>tE e+4
end
noncomputable def Wi(n t:ai)(h:H):Prop:=h.o.length<=t/\h.n<=n+t
section
variable{n m t t':ai}{h h':H}{e:E}{o:af S}{c:az}
theorem Wi.le(w:Wi n t h)(l:t<=t'):Wi n t' h:=⟨aj w.1 l,aj w.2<|bK l n⟩
theorem i6{x:S}(h:o.length<=t):(o++[x]).length<=t+1:=aj (bA eX) (bG h)
theorem Wi.keep{late:az}(w:Wi n t h):Wi n (t+1) (keep late h):=aO (Wi n<|t+1) (λ_=>w.le<|aR t) λ_=>⟨i6 w.1,bG w.2⟩
theorem Wi.mc{k:ai}(w:Wi (n+1) t h):Wi n (t+1) (kH k h):=⟨i6 w.1,aj w.2<|bA ((fg n 1 t).trans (ay (n+·)<|l7 1 t))⟩
theorem Wi.pr{f:E->E->E}{late yb:az}{b:E}{hb:ai->H}(w:Wi n t h)(w':∀k,Wi k t'<|hb k):Wi n (t+t'+1) (pr f late yb b h hb):=by
 refine aO (Wi n<|t+t'+1) (λ_=>?_) λ_=>w.le (aj (aW t t')<|aR _)
 have k:=w.keep (late:=late)
 have q:=w' (Mine.L.keep late h).n
 have e:(t+1)+t'=t+t'+1:=iW t 1 t'
 exact⟨aj (bA eX) (aj (cQ k.1 q.1)<|bA e),aj q.2<|aj (dP k.2 t') (bA<|(fg n (t+1) t').trans (ay (n+·) e))⟩
theorem Wi.cast(w:Wi n t h):Wi n t (ij e h):=aO (Wi n t) (λ_=>w) λ_=>w
theorem Wi.s8{q:az}(w:Wi n t h):Wi n t (kL q h):=aO (Wi n t) (λ_=>w) λ_=>w
theorem C5(a b d:ai)(l:m<=(n+1+a)+b)(hd:1<=d):m<=n+(a+b+d):=
 aj l (aj (bA<|(fg (n+1) a b).trans ((fg n 1<|a+b).trans (ay (n+·)<|l7 1 (a+b))))<|bK (bK hd<|a+b) n)
theorem QD{o1:af S}{x1 cc x2:E}(l:o1.length<=t):(d7 n o1 x1 cc h x2).o.length<=t+2:=i6 (i6 l)
end
theorem cg(e:E):∀n,Wi n (tE e) (hv e n):=by
 have z:∀{e:E}{n t:ai},Wi n t ⟨e,n,[]⟩:=λ{e n t}=>⟨bQ _,aW n t⟩
 have c2:∀{a b e:E}{n:ai}{o1:af S}{x1 cc x2:E}{h:H}{d:ai},o1.length<=tE a->1<=d->h.n<=(n+1+tE a)+tE b->Wi n (tE a+tE b+(d+1)) (d7 n o1 x1 cc h x2):=λ{a b e n o1 x1 cc x2 h d} l hd hn=>
  ⟨aj (QD (n:=n) (x1:=x1) (cc:=cc) (h:=h) (x2:=x2) l) (cQ (aW _ _)<|bG hd),C5 _ _ _ hn<|bG (bQ d)⟩
 induction e with
 |lit d=>exactλn=>z|var x=>exactλn=>z|y0=>exactλn=>⟨aF 1,aF _⟩
 |dW p x=>exactλn=>z|un u e ih=>exactλn=>aO (Wi n<|tE e+1) (λ_=>Wi.mc (h:=⟨.un u (hv e<|n+1).e,(hv e<|n+1).n,(hv e<|n+1).o⟩)<|ih (n+1)) λ_=>(ih n).le (aR _)|bi w a b aE aJ=>
  intro n
  cases w with
  |y2=>exact((aE<|n+1).pr aJ).mc.le (aR _)|bS sa sb=>exact((aE n).s8.pr aJ).le (aW _ 2)|dY=>exact aO (Wi n _) (λ_=>((aE n).cast.pr λk=>(aJ k).cast).le<|aW _ 2) λ_=>z|_=>exact((aE n).pr aJ).le (aW _ 2)
 |la l a b aE aJ=>exactλn=>((aE n).pr aJ).le (aR _)|cN q a b aE aJ=>exactλn=>aO (Wi n<|tE a+tE b+2) (λ_=>c2 (e:=a) (d:=1) (aE _).1 (aF 1)<|aj (aJ _).2 (dP (aE _).2 _)) λ_=>(aE n).le (aj (aW _ (tE b))<|aW _ 2)|bW a b aE aJ=>exactλn=>aO (Wi n<|tE a+tE b+2) (λ_=>c2 (e:=a) (d:=1) (aE _).1 (aF 1)<|aj (aJ _).2 (dP (aE _).2 _)) λ_=>(aE n).le (aj (aW _ (tE b))<|aW _ 2)|c7 a b aE aJ=>exactλn=>aO (Wi n<|tE a+tE b+2) (λ_=>c2 (e:=a) (d:=1) (aE _).1 (aF 1)<|aj (aJ _).2 (dP (aE _).2 _)) λ_=>(aE n).le (aj (aW _ (tE b))<|aW _ 2)|c6 a b c aE aJ wZ=>
  exactλn=>aO (Wi n<|tE a+tE c+tE b+2) (λ_=>⟨aj (i6 (aE<|n+1).1) (cQ (aj (aW _ (tE c))<|aW _ (tE b)) aa),
   C5 (tE a+tE c) (tE b) 2 (aj (aJ _).2<|dP (aj (wZ _).2<|aj (dP (aE _).2 _) (bA<|fg _ _ _)) _) aa⟩)
   λ_=>(aE n).le (aj (aW _ (tE c))<|aj (aW _ (tE b)) (aW _ 2))
 |dz x e ih=>exactλn=>aO (Wi n<|tE e+2) (λ_=>⟨(show 2<=tE e+2 from bY 2 _),aj (ih _).2<|aj (bA<|iW n 1 (tE e)) (aR _)⟩) λ_=>z|c8 a b aE aJ=>
  exactλn=>aO (Wi n<|tE a+tE b+3) (λ_=>have k:=(aE<|n+1).keep (late:=ag)
   ⟨aj (QD k.1) (dP (aW _ (tE b)) 3),aj (C5 (tE a+1) (tE b) 2 (aj (aJ _).2<|dP k.2 _) aa)<|bA (ay (λz=>n+(z+2))<|iW (tE a) 1 (tE b))⟩)
   λ_=>(aE n).le (aj (aW _ (tE b))<|aW _ 3)
 |cZ e w h ih=>exactλn=>(ih n).le (aW _ 4)
theorem Nm.wk{c:az}{x:aq}(h:Nm c x):Nm ag x:=h.imp id (.imp id λh=>⟨rfl,h.2⟩)
theorem nJ.wk{c:az}{u:U}(h:nJ c u):nJ ag u:=by
 cases u with
 |aN x=>exact Nm.wk (c:=c) h|op p x=>exact Nm.wk (c:=c) h|_=>trivial
theorem aL.to{c:az}{h:ai}{e:E}(o:aL c h e):∀k,h<=k->aL ag k e:=by
 have S:∀{h:ai}{P:ai->Prop},(∀k,h<=k->P (k+1))->∀k,h+1<=k->P k:=λf k hk=>by
  cases k with
  |zero=>exact dk hk (uZ _)|succ k=>exact f k (sO hk)
 induction o with
 |lit q=>exactλk _=>.lit q|var q=>exactλk _=>.var q.wk|y0=>exactλk _=>.y0|dW q=>exactλk _=>.dW q.wk|un hu _ ih=>exact S λk hk=>.un hu.wk (ih k hk)|bi _ _ aE aJ=>exact S λk hk=>.bi (aE k hk) (aJ k hk)|la _ _ aE aJ=>exact S λk hk=>.la (aE k hk) (aJ k hk)|cN _ _ aE aJ=>exact S λk hk=>.cN (aE k hk) (aJ k hk)|bW _ _ _ aE aJ=>exact S λk hk=>.bW (aE k hk) (aJ k hk) nofun|c7 _ _ aE aJ=>exact S λk hk=>.c7 (aE k hk) (aJ k hk)|c6 _ _ _ aE aJ gW=>exact S λk hk=>.c6 (aE k hk) (aJ k hk) (gW k hk)|dz q _ ih=>exact S λk hk=>.dz q.wk (ih k hk)|c8 _ _ aE aJ=>exact S λk hk=>.c8 (aE k hk) (aJ k hk)|cZ _ hw hv ih=>exact S λk hk=>.cZ (ih k hk) hw hv
theorem bR.to{c:az}{h:ai}{b:af S}(o:bR c h b):∀k,h<=k->bR ag k b:=by
 have St:∀{h:ai}{P:ai->Prop},(∀k,h<=k->P (k+1))->∀k,h+1<=k->P k:=λf k hk=>by
  cases k with
  |zero=>exact dk hk (uZ _)|succ k=>exact f k (sO hk)
 refine bR.rec (motive_1:=λh x _=>∀k,h<=k->fH ag k x) (motive_2:=λh b _=>∀k,h<=k->bR ag k b) ?_ ?_ ?_ ?_ ?_ ?_ ?_ ?_ ?_ ?_ ?_ ?_ ?_ ?_ ?_ ?_ o
 ·exactλoe=>St λk hk=>.ex (oe.to k hk)
 ·exactλoe=>St λk hk=>.dT (oe.to k hk)
 ·exactλoa ob=>St λk hk=>.ig (oa.to k hk) (ob.to k hk)
 ·exactλk _=>.fk
 ·exactλk _=>.jK
 ·exactλoe=>St λk hk=>.ret (oe.to k hk)
 ·exactλ_ ib=>St λk hk=>.gO (ib k hk)
 ·exactλoe _ _ ho ib io=>St λk hk=>.b9 (oe.to k hk) (ib k hk) (io k hk) ho
 ·exactλoe _ ey _ _ ho ib cV io=>St λk hk=>.dH (oe.to k hk) (ib k hk) (ey.to k hk) (cV k hk) (io k hk) ho
 ·exactλoe _ ib=>St λk hk=>.cM (oe.to k hk) (ib k hk)
 ·exactλoe _ ib=>St λk hk=>.c9 (oe.to k hk) (ib k hk)
 ·exactλoe _ ib=>St λk hk=>.fe (oe.to k hk) (ib k hk)
 ·exactλoe _ _ ix iy=>St λk hk=>.sw (oe.to k hk) (ix k hk) (iy k hk)
 ·exactλ_ _ ib cV=>St λk hk=>.tr (ib k hk) (cV k hk)
 ·exactλk _=>.nil
 ·exactλ_ _ _ ix ir k hk=>.cons (ix k hk) (ir k hk) nofun
theorem bR.dq{h:ai}{b:af S}:∀{a:af S},bR ag h a->bR ag h b->bR ag h (a++b)
 |[],_,o=>o|_::_,.cons ox or _,o=>.cons ox (bR.dq or o) nofun
theorem bR.bh{h:ai}{x:S}(o:fH ag h x):bR ag h [x]:=.cons o .nil nofun
theorem tN{k:ai}(h:k<=12000):Nm ag (aG k):=.inr (.inr ⟨rfl,k,h,rfl⟩)
noncomputable def G(i j:ai)(x:H):Prop:=aL ag i x.e/\bR ag j x.o
section
variable{i j n m k t:ai}{x h:H}{a b c e x1 x2:E}{o1:af S}
theorem qN(o:aL ag i e)(hk:k<=12000)(hj:i+2<=j):bR ag j [cB (aG k) e]:=(bR.bh<|.ex (.un (u:=.aN<|aG k) (tN hk) o)).to j hj
theorem G.keep{late:az}(g:G i j x)(hj:i+2<=j)(hn:x.n+1<=12000):G i j (keep late x):=aO (G i j) (λ_=>g) λ_=>⟨.var (tN hn),g.2.dq<|qN g.1 hn hj⟩
theorem G.mc(g:G i j x)(hj:i+2<=j)(hk:k<=12000):G 0 j (kH k x):=⟨.var (tN hk),g.2.dq<|qN g.1 hk hj⟩
theorem G.to(g:G i j x){i' j':ai}(hi:i<=i')(hj:j<=j'):G i' j' x:=⟨g.1.to i' hi,g.2.to j' hj⟩
theorem G.pr{f:E->E->E}{late yb:az}{hb:ai->H}(hf:∀{x y},aL ag i x->aL ag i y->aL ag (i+1) (f x y))(g:G i j x)(ob:aL ag i b)(g':∀k,k<=x.n+1->G i j (hb k))(hj:i+2<=j)(hn:x.n+1<=12000):G (i+1) j (pr f late yb b x hb):=by
 refine aO (G (i+1) j) (λ_=>?_) λ_=>⟨hf g.1 ob,g.2⟩
 have k:=g.keep (late:=late) hj hn
 have q:=g' (Mine.L.keep late x).n (aO (λq:H=>q.n<=x.n+1) (λ_=>aR _) λ_=>aF _)
 exact⟨hf k.1 q.1,k.2.dq q.2⟩
theorem G.cast(g:G i j x):G (i+1) j (ij e x):=aO (G (i+1) j) (λ_=>g.to (aR i)<|aF j) λ_=>⟨.un trivial g.1,g.2⟩
theorem G.s8{q:az}(g:G i j x):G (i+1) j (kL q x):=aO (G (i+1) j) (λ_=>⟨.un trivial g.1,g.2⟩) λ_=>g.to (aR i) (aF j)
theorem G.d7(h1:bR ag j o1)(e1:aL ag i x1)(ec:aL ag j c)(g:bR ag j h.o)(e2:aL ag i x2)(hj:i+2<=j)(hn:n+1<=12000):G 0 (j+1) (d7 n o1 x1 c h x2):=
 ⟨.var (tN hn),((h1.dq<|qN e1 hn hj).to (j+1)<|aR j).dq<|bR.bh (.b9 ec (g.dq<|qN e2 hn hj) .nil λ_=>rfl)⟩
theorem rP{a b d:ai}(q:n+(a+b+d)<=12000)(hd:1<=d)(l:m<=n+1+a):m+b<=12000:=aj (C5 a b d (dP l b) hd) q
theorem tU{a b d:ai}(q:n+(a+b+d)<=12000)(hd:1<=d):n+1+a<=12000:=aj (aW _ b) (rP q hd<|aF _)
theorem F2{a b d:ai}(q:n+(a+b+d)<=12000)(hd:1<=d)(l:m<=n+(a+1)):m+b<=12000:=rP q hd (aj l<|bA (Au n a).symm)
theorem Np{a b d:ai}(q:n+(a+b+d)<=12000)(hd:1<=d)(l:m<=n+a):m+1<=12000:=aj (bG l) (aj (bA (Au n a).symm)<|tU q hd)
theorem rQ{a b d:ai}(q:n+(a+b+d)<=12000):n+a<=12000:=aj (bK (aj (aW a b)<|aW _ d) n) q
theorem tT{d:ai}(q:n+d<=12000)(hd:1<=d):n+1<=12000:=aj (bK hd n) q
end
theorem FU{k:ai}(h:k<=12000){j:ai}(hj:1<=j):aL ag j (gq<|aG k):=(aL.la (h:=0) (.var<|tN h)<|.lit (d:=.none) trivial).to j hj
theorem kl{h:ai}{e:E}(o:aL ae h e):∀n,n+tE e<=12000->G (2*h) (2*h+3) (hv e n):=by
 have P:∀{h n:ai}{e:E},aL ae h e->G (2*h) (2*h+3) ⟨e,n,[]⟩:=λ{h n e} o=>⟨o.to _ (lC h aa),.nil⟩
 have d2:∀{h:ai}{e:E},aL ae h e->aL ag (2*h+1) e:=λ{h e} o=>o.to _ (aj (lC h aa)<|aR _)
 have bh:∀{d:ai},1<=d+2:=λ{d}=>bG (bQ _)
 have l5:∀h:ai,2*h+3<=2*(h+1)+3:=λh=>aW _ 2
 induction o with
 |lit q=>exactλn _=>P (.lit q)|var q=>exactλn _=>P (.var q)|@y0 h=>exactλn hn=>(G.mc (i:=0) (j:=2*h+3) (x:=⟨.y0,n+1,[]⟩) ⟨.y0,.nil⟩ (aj aa<|bY 3 _) hn).to (bQ _) (aF _)|dW q=>exactλn _=>P (.dW q)|@un h u e hu oe ih=>
  intro n hn
  have kq:n+1+tE e<=12000:=aj (bA<|Au n (tE e)) hn
  refine aO (G (2*(h+1))<|2*(h+1)+3) (λ_=>?_) λ_=>?_
  ·have g:=ih (n+1) kq
   exact((G.mc (i:=2*h+1) (j:=2*h+3) (x:=⟨.un u (hv e<|n+1).e,(hv e<|n+1).n,(hv e<|n+1).o⟩) ⟨.un hu.wk g.1,g.2⟩ (aF _)<|aj (aW _ _) kq)).to (bQ _) (l5 h)
  ·have g:=ih n (aj (aR _) hn)
   exact(show G (2*h+1) (2*h+3) ⟨.un u (hv e n).e,(hv e n).n,(hv e n).o⟩ from⟨.un hu.wk g.1,g.2⟩).to (aR _) (l5 h)
 |@bi h w a b oa ob aE aJ=>
  intro n hn
  have PR:∀(w:W)(m:ai){x:H}{b':E}{hb:ai->H},G (2*h+1) (2*h+3) x->x.n=(hv a m).n->aL ag (2*h+1) b'->(∀k,k+tE b<=12000->G (2*h+1) (2*h+3) (hb k))->m+(tE a+1)+tE b<=12000->G (2*h+2) (2*h+3) (pr (.bi w) ag (Y b) b' x hb):=λw m x b' hb gx ex fX gb q=>
   have q1:m+tE a+1<=12000:=aj (aW _ _) q
   have l1:x.n+1<=m+(tE a+1):=ex.symm▸bG (cg a m).2
   G.pr (i:=2*h+1) .bi gx fX (λk hk=>gb k<|aj (dP (aj hk l1) _) q) (aF _) (aj l1 q1)
  have qn:n+(tE a+1)+tE b<=12000:=F2 hn bh (aF _)
  have ga:=aE n (rQ hn)
  have gb:∀k,k+tE b<=12000->G (2*h+1) (2*h+3) (hv b k):=λk hk=>(aJ k hk).to (aR _) (aF _)
  have ga1:G (2*h+1) (2*h+3) (hv a n):=ga.to (aR _) (aF _)
  have D:∀w,G (2*h+2) (2*h+5) (pr (.bi w) ag (Y b) b (hv a n)<|hv b):=λw=>(PR w n ga1 rfl (d2 ob) gb qn).to (aF _) (l5 h)
  cases w with
  |y2=>
   have q':n+1+(tE a+1)+tE b<=12000:=rP (d:=2) (a:=tE a+1) (aj (bA<|ay (λz=>n+(z+2)) (iW (tE a) 1<|tE b)) hn) aa (aF _)
   exact((PR .y2 (n+1) ((aE (n+1)<|aj (aR _) (aj (aW _ _) q')).to (aR _)<|aF _) rfl (d2 ob) gb q').to (aF _) (aR _) |>.mc (j:=2*h+4) (aF _) (tT hn bh)).to (bQ _) (aR _)
  |bS sa sb=>exact(PR (.bS sa sb) n ga.s8 (Lg _ (hv a n)) (d2 ob) gb qn).to (aF _) (l5 h)|dY=>
   refine aO (G (2*h+2)<|2*h+5) (λ_=>?_) λ_=>P (h:=h+1) (.bi oa ob)
   exact(PR .dY n ga.cast (CU a<|hv a n) (aO (aL ag<|2*h+1) (λ_=>d2 ob) λ_=>.un (u:=.iS) trivial (ob.to _ (lC h aa))) (λk hk=>(aJ k hk).cast) qn).to (aF _) (l5 h)
  |_=>exact D _
 |@la h l a b oa ob aE aJ=>
  intro n hn
  exact(G.pr (i:=2*h+1) .la ((aE n<|rQ hn).to (aR _)<|aF _) (d2 ob) (λk hk=>(aJ k<|F2 hn bh (aj hk<|bG (cg a n).2)).to (aR _)<|aF _) (aF _)<|Np hn bh (cg a n).2).to (aF _) (l5 h)
 |@cN h q a b oa ob aE aJ=>
  intro n hn
  have ga:=aE (n+1) (tU hn bh)
  refine aO (G (2*h+2)<|2*h+5) (λ_=>?_) λ_=>?_
  ·have gb:=aJ _ (rP hn bh (cg a<|n+1).2)
   have n1:=tT hn bh
   exact(G.d7 ga.2 (.un (u:=.fF) trivial ga.1) (aO (aL ag<|2*h+3) (λ_=>.un (u:=.nt) trivial (.var<|tN n1)) λ_=>.var<|tN n1) gb.2 (.un (u:=.fF) trivial gb.1) (aF _) n1).to (bQ _) (aR _)
  ·have g:=aE n (rQ hn);exact(show G (2*h+1) (2*h+3) ⟨.cN q (hv a n).e b,(hv a n).n,(hv a n).o⟩ from⟨.cN g.1 (ob.to _ (lC h aa)),g.2⟩).to (aR _) (l5 h)
 |@bW h a b oa ob _ aE aJ=>
  intro n hn
  have ga:=aE (n+1) (tU hn bh)
  refine aO (G (2*h+2)<|2*h+5) (λ_=>?_) λ_=>?_
  ·have gb:=aJ _ (rP hn bh (cg a<|n+1).2)
   have n1:=tT hn bh
   exact(G.d7 ga.2 (.bW ga.1 (.lit (d:=.none) trivial) nofun) (FU n1<|bG (bQ _)) gb.2 (gb.1.to _ (aR _)) (aF _) n1).to (bQ _) (aR _)
  ·have g:=aE n (rQ hn);exact(show G (2*h+1) (2*h+3) ⟨.bW (hv a n).e b,(hv a n).n,(hv a n).o⟩ from⟨.bW g.1 (ob.to _ (lC h aa)) nofun,g.2⟩).to (aR _) (l5 h)
 |@c7 h a b oa ob aE aJ=>
  intro n hn
  have ga:=aE (n+1) (tU hn bh)
  refine aO (G (2*h+2)<|2*h+5) (λ_=>?_) λ_=>?_
  ·have gb:=aJ _ (rP hn bh (cg a<|n+1).2)
   have n1:=tT hn bh
   exact(G.d7 ga.2 (ga.1.to _ (aR _)) (.un (u:=.nt) trivial (.var<|tN n1)) gb.2 (gb.1.to _ (aR _)) (aF _) n1).to (bQ _) (aR _)
  ·have g:=aE n (rQ hn);exact(show G (2*h+1) (2*h+3) ⟨.c7 (hv a n).e b,(hv a n).n,(hv a n).o⟩ from⟨.c7 g.1 (ob.to _ (lC h aa)),g.2⟩).to (aR _) (l5 h)
 |@c6 h a b d oa ob od aE aJ gW=>
  intro n hn
  have n1:=tT hn bh
  have q1:=tU hn bh
  have ga:=aE (n+1) (aj (bK (aW _ (tE d)) _) q1)
  refine aO (G (2*h+2)<|2*h+5) (λ_=>?_) λ_=>?_
  ·have l1:(hv a<|n+1).n+tE d<=n+1+(tE a+tE d):=aj (dP (cg a<|n+1).2 _) (bA<|fg _ _ _)
   have gd:=gW _ (aj l1 q1)
   have gb:=aJ _ (rP hn bh<|aj (cg d _).2 l1)
   exact(show G 0 (2*h+4) (Ck n (hv a<|n+1) (hv b (hv d (hv a<|n+1).n).n)<|hv d (hv a<|n+1).n) from⟨.var (tN n1),(ga.2.to _ (aR _)).dq<|bR.bh (.b9 (ga.1.to _ (aW _ 3)) (gb.2.dq<|qN gb.1 n1 (aR _)) (gd.2.dq<|qN gd.1 n1 (aR _)) nofun)⟩).to (bQ _) (aR _)
  ·have g:=aE n (aj (bK (aW _ (tE d)) _)<|rQ hn);exact(show G (2*h+1) (2*h+3) ⟨.c6 (hv a n).e b d,(hv a n).n,(hv a n).o⟩ from⟨.c6 g.1 (ob.to _ (lC h aa)) (od.to _ (lC h aa)),g.2⟩).to (aR _) (l5 h)
 |@dz h x b q ob aJ=>
  intro n hn
  have n1:=tT hn bh
  refine aO (G (2*h+2)<|2*h+5) (λ_=>?_) λ_=>P (h:=h+1) (.dz q ob)
  have gb:=aJ (n+1) (aj (bA<|Au n (tE b))<|aj (aR _) hn)
  exact(G.d7 (j:=2*h+3) .nil ((aL.bW (h:=0) (.var q.wk) (.lit (d:=.none) trivial) nofun).to (2*h+1)<|bG (bQ _)) (FU n1<|bG (bQ _)) gb.2 (.un (u:=.aN x) q.wk gb.1) (aF _) n1).to (bQ _) (aR _)
 |@c8 h a b oa ob aE aJ=>
  intro n hn
  have MY:∀{d:ai},1<=d+3:=λ{d}=>bG (bQ _)
  refine aO (G (2*h+2)<|2*h+5) (λ_=>?_) λ_=>?_
  ·have n1:=tT hn MY
   have kq:n+(tE a+1+tE b+2)<=12000:=aj (bA<|ay (λz=>n+(z+2)) (iW (tE a) 1<|tE b)) hn
   have gk:=(aE (n+1)<|tU hn MY).keep (late:=ag) (aR _) (aj (bG (cg a<|n+1).2)<|tU kq bh)
   have gb:=aJ _ (rP kq bh ((cg a<|n+1).keep (late:=ag)).2)
   exact(G.d7 (i:=2*h+2) (j:=2*h+4) (gk.2.to _ (aR _)) (.bW (.la (.var .d) gk.1) (.lit (d:=.none) trivial) nofun) (FU n1<|bG (bQ _)) (gb.2.to _ (aR _)) (aL.to (.bi gk.1 gb.1) _ (aR _)) (aF _) n1).to (bQ _) (aF _)
  ·have g:=aE n (rQ hn);exact(show G (2*h+1) (2*h+3) ⟨.c8 (hv a n).e b,(hv a n).n,(hv a n).o⟩ from⟨.c8 g.1 (ob.to _ (lC h aa)),g.2⟩).to (aR _) (l5 h)
 |@cZ h e w v oe hw G0 ih=>
  intro n hn
  have g:=ih n (aj (bK (aW _ 4) n) hn)
  exact(show G (2*h+1) (2*h+3) ⟨.cZ (hv e n).e w v,(hv e n).n,(hv e n).o⟩ from⟨.cZ g.1 hw G0,g.2⟩).to (aR _) (l5 h)
noncomputable abbrev bk(n:ai):bP:=.ah [.int n]
noncomputable abbrev ot(f:af V):bP:=.ah f
theorem uF:∀(a b:af S),av (a++b)=av a++av b
 |[],_=>rfl|x::a,b=>ay (aM x::·) (uF a b)
theorem iD(f:af V)(o:af S)(x:S):f++av (o++[x])=(f++av o)++[aM x]:=(ay (f++·)<|uF o [x]).trans (oz _ _ _).symm
theorem uG(f:af V)(o o':af S):f++av (o++o')=(f++av o)++av o':=(ay (f++·)<|uF o o').trans (oz _ _ _).symm
noncomputable def Bd(f:af V)(n t:ai):Prop:=f.length+t<=60000/\n+t<=12000
section
variable{f:af V}{n t t' i:ai}{h:H}{a b e:E}{o:af S}
theorem Bd.le(d:Bd f n t)(l:t'<=t):Bd f n t':=⟨aj (bK l _) d.1,aj (bK l _) d.2⟩
theorem Bd.wi(d:Bd f n t)(w:Wi n i h)(l:i+t'<=t):Bd (f++av h.o) h.n t':=
 ⟨aj (aj (bA<|(ay (·+t')<|eX (as:=f) (bs:=av h.o)).trans (fg _ _ _))<|bK (aj (dP ((qJ h.o).symm▸w.1) t') l) _) d.1,
  aj (aj (dP w.2 t')<|aj (bA<|fg n i t') (bK l n)) d.2⟩
theorem Bd.f1(d:Bd f n t)(h:1<=t):f.length+1<=100000:=aj (aj (bK h _) d.1) aa
theorem Bd.n1(d:Bd f n t)(h:1<=t):n+1<=12000:=aj (bK h _) d.2
end
theorem nU{n:ai}(h:n+1<=12000):ao 1 10 [bk n] [] (.val<|cy (aG<|n+1)) [bk<|n+1]:=
 ao.go [.bi 0 (.val<|.str (fU<|toString ((n+1:ai):aH))),.bq 0<|.val (.str<|aG (n+1))] (λ_ _ z=>an (show gY .str (.int ((n+1:ai):aH))=ab (.val<|.str (fU<|toString ((n+1:ai):aH))) from a9<|j1 ((S3<|Nat.succ_ne_zero n).mpr<|lB h (aa:12000<2 ^ 20)) aa)
   (an (show ky .add (.str pS) (.str<|fU (toString ((n+1:ai):aH)))=ab (.val<|.str (aG<|n+1)) from Iw<|aj (bK (BU<|lB h aa).1 _) aa) z))
def ei(t:aq)(v:V):V:=.tuple [.str lH,.tuple [.str nV,cy t,v]]
theorem nT{t:aq}{v:V}{f:af V}(h:f.length+1<=100000):ao 1 11 [ot f] [cy t,v] (.val .none) [ot<|f++[ei t v]]:=
 ao.go [.bw 0 (.val .none) [ot<|f++[ei t v]]] λ_ _ z=>an (xr (ei t v) h) z
theorem zC{x:aq}(h:x.length<=100000):tj (.str x) aw (ab 1)=ab (.val<|.str (nu x)):=Lu h
def Sh(e:E):Prop:=cu e=ae->(d5 e).length<=100000
theorem aL.sh{c:az}{h:ai}{e:E}(o:aL c h e):Sh e:=λq=>aj (m4 o q).ok.1.2 aa
theorem il(e:E)(rs:Rs):cv .eq (.val<|.str (hd<|ak e)) (.val<|.str tI) rs=ab (kQ e):=(iC _ _ rs).trans (ay ab (nd e).li)
theorem E9{e:E}(h:Sh e):ao 1 12 [] [ak e] (.val<|.bool (lF e)) []:=by
 have other:kQ e=ag->cu e=ag->ao 1 12 [] [ak e] (.val<|.bool ag) []:=λh1 h2=>
  ao.go [.aK 0 (.val<|.str (hd<|ak e)),.au 0 ag,.aK 0 (.val<|.str (hd<|ak e)),.au 0 ag] λ_ _ z=>an (i0 e []) (an ((il e []).trans (ay ab h1))<|an (i0 e []) (an (iv h2 []) z))
 cases e with
 |var x=>
  show ao 1 12 [] [cy x] (.val<|.bool (dM x oN||fu x)) []
  cases hx:dM x oN with
  |true=>exact ao.go [.au 2 ae] λ_ _ z=>an ((iC x oN []).trans (ay ab hx)) z|false=>exact ao.go [.au 2 ag,.dU 0 (.val<|.str (nu x)),.au 0<|fu x] λ_ _ z=>an ((iC x oN []).trans (ay ab hx)) (an (zC<|h rfl)<|an (iC (nu x) pS []) z)
 |lit d=>exact ao.go [] λ_ _ z=>z|_=>exact other rfl rfl
theorem yJ{h:H}{late:az}{f:af V}{t:ai}(sh:Sh h.e)(d:Bd (f++av h.o) h.n t)(ht:1<=t):ao 2 13 [bk h.n,ot<|f++av h.o] [ak h.e,.bool late] (.val<|ak (keep late h).e) [bk (keep late h).n,ot<|f++av (keep late h).o]:=by
 have hs:=E9 sh
 cases sf:lF h.e with
 |true=>
  rw[sf] at hs
  rw[show keep late h=h from a9 (by rw[sf];rfl)]
  exact ao.go [.call (.val<|.bool ae) []] λk hk z=>an (hs k hk) z
 |false=>
  rw[sf] at hs
  have hn:=nU (d.n1 ht)
  have hp:=nT (t:=aG<|h.n+1) (v:=ak h.e) (d.f1 ht)
  cases q:(late&&cu h.e) with
  |true=>
   rw[show keep late h=h from a9<|by rw[q,Jx]]
   have q:=dc.mp q
   rw[q.1]
   exact ao.go [.call (.val<|.bool ag) [],.aK 0 (.val<|.str (hd<|ak h.e)),.au 0 ae] λk hk z=>an (hs k hk) (an (i0 h.e [bk h.n,ot<|f++av h.o])<|an (iv q.2 [bk h.n,ot<|f++av h.o]) z)
  |false=>
   rw[show keep late h=⟨.var (aG<|h.n+1),h.n+1,h.o++[cB (aG<|h.n+1) h.e]⟩ from br (by rw[sf,q];exact ed)]
   show ao 2 13 _ _ _ [_,ot<|f++av (h.o++[cB (aG<|h.n+1) h.e])]
   rw[iD]
   cases late with
   |false=>exact ao.go [.call (.val<|.bool ag) [],.call (.val<|cy (aG<|h.n+1)) [bk<|h.n+1],.call (.val .none) [ot<|(f++av h.o)++[ei (aG<|h.n+1)<|ak h.e]]] λk hk z=>an (hs k hk) (an (hn k hk)<|an (hp k hk) z)|true=>
    exact ao.go [.call (.val<|.bool ag) [],.aK 0 (.val<|.str (hd<|ak h.e)),.au 0 ag,.call (.val<|cy (aG<|h.n+1)) [bk<|h.n+1],.call (.val .none) [ot<|(f++av h.o)++[ei (aG<|h.n+1)<|ak h.e]]] λk hk z=>an (hs k hk) (an (i0 h.e [bk h.n,ot<|f++av h.o])<|an (iv q [bk h.n,ot<|f++av h.o]) (an (hn k hk)<|an (hp k hk) z))
theorem Md:ao 1 21 [] [wL] (.val .none) []:=ao.go [] λ_ _ z=>z
theorem h8{e:E}(b:az):ao 1 24 [] [ak e,.bool b] (.val<|ak (mf b e)) []:=by
 cases b<;>exact ao.go [] λ_ _ z=>z
theorem RD:ao 1 8 [] [.list []] (.val<|.bool ag) []:=ao.go [] λ_ _ z=>z
section
variable{v u:V}{y z:az}
theorem ahg(h:ao 5 7 [] [v] (.val<|.bool y) []):ao 6 8 [] [.tuple [v]] (.val<|.bool y) []:=by
 cases y with
 |true=>exact ao.go [.call (.val<|.bool ae) []] λk hk z=>an (h k hk) z|false=>exact ao.go [.call (.val<|.bool ag) []] λk hk z=>an (h k hk) z
theorem ahf(h:ao 5 7 [] [v] (.val<|.bool y) []):ao 6 8 [] [.list [v]] (.val<|.bool y) []:=by
 cases y with
 |true=>exact ao.go [.call (.val<|.bool ae) []] λk hk z=>an (h k hk) z|false=>exact ao.go [.call (.val<|.bool ag) []] λk hk z=>an (h k hk) z
theorem Iq(h:ao 5 7 [] [v] (.val<|.bool y) [])(h':ao 5 7 [] [u] (.val<|.bool z) []):ao 6 8 [] [.tuple [v,u]] (.val<|.bool (y||z)) []:=by
 cases y with
 |true=>exact ao.go [.call (.val<|.bool ae) []] λk hk z=>an (h k hk) z|false=>
  cases z with
  |true=>exact ao.go [.call (.val<|.bool ag) [],.call (.val<|.bool ae) []] λk hk z=>an (h k hk) (an (h' k hk) z)|false=>exact ao.go [.call (.val<|.bool ag) [],.call (.val<|.bool ag) []] λk hk z=>an (h k hk) (an (h' k hk) z)
end
theorem BC{v:V}{w:aq}(h:ao 5 7 [] [v] (.val<|.bool ag) []):ao 6 9 [] [v,.str w] (.val .none) []:=
 ao.go [.call (.val<|.bool ag) []] λk hk z=>an (h k hk) z
theorem gT{a b:az}(h:(a||b)=ag):a=ag/\b=ag:=ajF.mp h
theorem FA{f:E->E->E}{late:az}{b:E}{ha:H}{hb:ai->H}{y:az}(h:y=ag):pr f late y b ha hb=⟨f ha.e b,ha.n,ha.o⟩:=br (cz.mp h)
theorem mB(e:E):Y e=ag->∀n,hv e n=⟨e,n,[]⟩:=by
 have F:=λ{x y:H}{q:az}(h:q=ag)=>(br (cz.mp h):(if q then x else y)=y)
 induction e with
 |lit d=>exactλ_ n=>rfl|var x=>exactλ_ n=>rfl|y0=>exactλh=>nomatch h|dW p x=>exactλ_ n=>rfl|un u e ih=>exactλh n=>have h:=gT h;(F h.1).trans (ay (λx:H=>(⟨.un u x.e,x.n,x.o⟩:H))<|ih h.2 n)|bi w a b aE aJ=>
  intro h n
  have h:=gT h
  have h2:=gT h.2
  cases w with
  |y2=>exact nomatch h.1|bS sa sb=>exact(FA h2.2).trans (by rw[show kL (Y b&&sa) (hv a n)=hv a n from br (by rw[h2.2];exact ed),aE h2.1 n])|dY=>exact F h.2|_=>exact(FA h2.2).trans (ay (λx:H=>(⟨.bi _ x.e b,x.n,x.o⟩:H))<|aE h2.1 n)
 |la l a b aE aJ=>exactλh n=>have h:=gT h;(FA h.2).trans (ay (λx:H=>(⟨.la l x.e b,x.n,x.o⟩:H))<|aE h.1 n)|cN q a b aE aJ=>exactλh n=>have h:=gT h;(F h.2).trans (ay (λx:H=>(⟨.cN q x.e b,x.n,x.o⟩:H))<|aE h.1 n)|bW a b aE aJ=>exactλh n=>have h:=gT h;(F h.2).trans (ay (λx:H=>(⟨.bW x.e b,x.n,x.o⟩:H))<|aE h.1 n)|c7 a b aE aJ=>exactλh n=>have h:=gT h;(F h.2).trans (ay (λx:H=>(⟨.c7 x.e b,x.n,x.o⟩:H))<|aE h.1 n)|c6 a b c aE aJ wZ=>exactλh n=>have h:=gT h;(F h.2).trans (ay (λx:H=>(⟨.c6 x.e b c,x.n,x.o⟩:H))<|aE h.1 n)|dz x e ih=>exactλh n=>F h|c8 a b aE aJ=>exactλh n=>have h:=gT h;(F h.2).trans (ay (λx:H=>(⟨.c8 x.e b,x.n,x.o⟩:H))<|aE h.1 n)|cZ e w v ih=>exactλh n=>ay (λx:H=>(⟨.cZ x.e w v,x.n,x.o⟩:H)) (ih h n)
def HV(N:ai)(e:E):Prop:=∀(n:ai)(f:af V),Bd f n (tE e)->ao N 15 [bk n,ot f] [ak e] (.val<|ak (hv e n).e) [bk (hv e n).n,ot<|f++av (hv e n).o]
theorem HV.aU{N M:ai}{e:E}(h:HV N e)(hM:N<=M):HV M e:=λn f d=>(h n f d).aU hM
structure C6 where
 a:E
 b:E
 n:ai
 o:af S
def bU(late yb:az)(b:E)(ha:H)(hb:ai->H):C6:=if yb then⟨(keep late ha).e,(hb (keep late ha).n).e,(hb (keep late ha).n).n,(keep late ha).o++(hb (keep late ha).n).o⟩ else⟨ha.e,b,ha.n,ha.o⟩
theorem rJ(f:E->E->E)(late yb:az)(b:E)(ha:H)(hb:ai->H):pr f late yb b ha hb=⟨f (bU late yb b ha hb).a (bU late yb b ha hb).b,(bU late yb b ha hb).n,(bU late yb b ha hb).o⟩:=by cases yb<;>rfl
theorem eM(e:E)(rs:Rs):cv .kh (.val<|ak e) (.val .none) rs=ab ae:=ay (gv (!·)) (en e rs)
theorem Cd{f:af V}{n:ai}{a b:E}{late:az}(d:Bd f n (tE a+tE b+1)):Bd (f++av (keep late<|hv a n).o) (keep late<|hv a n).n (tE b):=d.wi (cg a n).keep (bA<|iW (tE a) 1 (tE b))
theorem Bd.a{f:af V}{n:ai}{a b:E}{d:ai}(h:Bd f n (tE a+tE b+d)):Bd f n (tE a):=h.le (aj (aW _ (tE b))<|aW _ d)
theorem Bd.k{f:af V}{n:ai}{a b:E}(d:Bd f n (tE a+tE b+1)):Bd (f++av (hv a n).o) (hv a n).n 1:=d.wi (cg a n) (bG<|aW _ _)
section
variable{N n h₀ h₁:ai}{f:af V}{a b:E}{la lb:az}
theorem w5(oa:aL ae h₀ a)(hn:n+tE a<=12000):Sh (hv a n).e:=(kl oa n hn).1.sh
theorem oB(d:V):ao 5 7 [] [bO d] (.val<|.bool ag) []:=DZ (n:=1) rfl aa λk hk=>Pr.lit hk (aF 1)
theorem HG(d:V):ao 6 15 [bk n,ot f] [bO d] (.val<|bO d) [bk n,ot f]:=ao.go [.call (.val<|.bool ag) []] λk hk z=>an (oB d k hk) z
theorem GI(d:V):ao 2 13 [bk n,ot f] [bO d,.bool la] (.val<|bO d) [bk n,ot f]:=ao.go [.call (.val<|.bool ae) []] λk hk z=>an (E9 (e:=.lit d) nofun k hk) z
theorem WI(A:HV N a)(oa:aL ae h₀ a)(g0:h₀<=10000)(d:Bd f n (tE a))(hN:6<=N):ao (N+1) 14 [bk n,ot f] [.list [ak a],.list [.bool ag,.bool ag]] (.own<|.ah [ak (hv a n).e]) [bk (hv a n).n,ot<|f++av (hv a n).o]:=by
 have ya:=jL oa g0
 have le:∀{k m},N<=k->m<=6->m<=k:=λh l=>aj l (aj hN h)
 have HA:=A n f d
 cases ha:Y a with
 |true=>rw[ha] at ya;exact ao.go [.call (.val<|.bool ae) [],.au 1 ae,.call (.val<|ak (hv a n).e) [bk (hv a n).n,ot<|f++av (hv a n).o]] λk hk z=>(an (ya k<|le hk aa)<|an (eM a []) (an (HA k hk) z))
 |false=>
  rw[ha] at ya
  rw[mB a ha n]
  show ao (N+1) 14 _ _ _ [_,ot<|f++[]]
  rw[fy]
  exact ao.go [.call (.val<|.bool ag) [],.au 1 ae] λk hk z=>(an (ya k<|le hk aa)<|an (eM a []) z)
theorem E2(A:HV N a)(oa:aL ae h₀ a)(g0:h₀<=10000)(d:Bd f n (tE a))(hN:6<=N):ao (N+1) 14 [bk n,ot f] [.list [.none,ak a],.list [.bool ag,.bool ag]] (.own<|.ah [.none,ak (hv a n).e]) [bk (hv a n).n,ot<|f++av (hv a n).o]:=by
 have ya:=jL oa g0
 have le:∀{k m},N<=k->m<=6->m<=k:=λh l=>aj l (aj hN h)
 have HA:=A n f d
 cases ha:Y a with
 |true=>rw[ha] at ya;exact ao.go [.call (.val<|.bool ag) [],.call (.val<|.bool ae) [],.au 2 ae,.call (.val<|ak (hv a n).e) [bk (hv a n).n,ot<|f++av (hv a n).o]] λk hk z=>(an (iY k<|le hk aa)<|an (ya k<|le hk aa) (an (eM a [])<|an (HA k hk) z))
 |false=>
  rw[ha] at ya
  rw[mB a ha n]
  show ao (N+1) 14 _ _ _ [_,ot<|f++[]]
  rw[fy]
  exact ao.go [.call (.val<|.bool ag) [],.call (.val<|.bool ag) [],.au 2 ae] λk hk z=>(an (iY k<|le hk aa)<|an (ya k<|le hk aa) (an (eM a []) z))
theorem E4(A:HV N a)(B:HV N b)(oa:aL ae h₀ a)(ob:aL ae h₁ b)(g0:h₀<=10000)(g1:h₁<=10000)(d:Bd f n (tE a+tE b+1))(hN:6<=N):ao (N+1) 14 [bk n,ot f] [.list [ak a,ak b],.list [.bool la,.bool lb]] (.own<|.ah [ak (bU la (Y b) b (hv a n)<|hv b).a,ak (bU la (Y b) b (hv a n)<|hv b).b]) [bk (bU la (Y b) b (hv a n)<|hv b).n,ot<|f++av (bU la (Y b) b (hv a n)<|hv b).o]:=by
 have ya:=jL oa g0
 have yb:=jL ob g1
 have le:∀{k m},N<=k->m<=6->m<=k:=λh l=>aj l (aj hN h)
 have HA:=A n f d.a
 cases hb:Y b with
 |true=>
  rw[hb] at yb
  have HB:=B (keep la<|hv a n).n (f++av (keep la<|hv a n).o) (Cd d)
  have HK:=yJ (late:=la) (f:=f) (w5 oa d.a.2) d.k (aF 1)
  show ao (N+1) 14 _ _ _ [_,ot<|f++av ((keep la<|hv a n).o++(hv b (keep la<|hv a n).n).o)]
  rw[uG]
  cases ha:Y a with
  |true=>rw[ha] at ya;exact ao.go [.call (.val<|.bool ae) [],.call (.val<|.bool ae) [],.au 1 ae,.call (.val<|ak (hv a n).e) [bk (hv a n).n,ot<|f++av (hv a n).o],.call (.val<|ak (keep la<|hv a n).e) [bk (keep la<|hv a n).n,ot<|f++av (keep la<|hv a n).o],.au 0 ae,.call (.val<|ak (hv b (keep la<|hv a n).n).e) [bk (hv b (keep la<|hv a n).n).n,ot<|(f++av (keep la<|hv a n).o)++av (hv b (keep la<|hv a n).n).o]] λk hk z=>(an (ya k<|le hk aa)<|an (yb k<|le hk aa) (an (eM a [])<|an (HA k hk) (an (HK k<|le hk aa)<|an (eM b []) (an (HB k hk) z))))
  |false=>rw[ha] at ya;exact ao.go [.call (.val<|.bool ag) [],.call (.val<|.bool ae) [],.au 1 ae,.call (.val<|ak (hv a n).e) [bk (hv a n).n,ot<|f++av (hv a n).o],.call (.val<|ak (keep la<|hv a n).e) [bk (keep la<|hv a n).n,ot<|f++av (keep la<|hv a n).o],.au 0 ae,.call (.val<|ak (hv b (keep la<|hv a n).n).e) [bk (hv b (keep la<|hv a n).n).n,ot<|(f++av (keep la<|hv a n).o)++av (hv b (keep la<|hv a n).n).o]] λk hk z=>(an (ya k<|le hk aa)<|an (yb k<|le hk aa) (an (eM a [])<|an (HA k hk) (an (HK k<|le hk aa)<|an (eM b []) (an (HB k hk) z))))
 |false=>
  rw[hb] at yb
  cases ha:Y a with
  |true=>rw[ha] at ya;exact ao.go [.call (.val<|.bool ae) [],.call (.val<|.bool ag) [],.au 1 ae,.call (.val<|ak (hv a n).e) [bk (hv a n).n,ot<|f++av (hv a n).o],.au 1 ae] λk hk z=>(an (ya k<|le hk aa)<|an (yb k<|le hk aa) (an (eM a [])<|an (HA k hk) (an (eM b []) z)))
  |false=>
   rw[ha] at ya
   show ao (N+1) 14 _ _ _ [bk (hv a n).n,ot<|f++av (hv a n).o]
   rw[show bU la ag b (hv a n) (hv b)=⟨(hv a n).e,b,(hv a n).n,(hv a n).o⟩ from rfl,mB a ha n]
   show ao (N+1) 14 _ _ _ [_,ot<|f++[]]
   rw[fy]
   exact ao.go [.call (.val<|.bool ag) [],.call (.val<|.bool ag) [],.au 1 ae,.au 1 ae] λk hk z=>(an (ya k<|le hk aa)<|an (yb k<|le hk aa) (an (eM a [])<|an (eM b []) z))
theorem WG(A:HV N a)(B:HV N b)(oa:aL ae h₀ a)(ob:aL ae h₁ b)(g0:h₀<=10000)(g1:h₁<=10000)(d:Bd f n (tE a+tE b+1))(hN:6<=N):ao (N+1) 14 [bk n,ot f] [.list [.none,ak a,ak b],.list [.bool ag,.bool ag,.bool ag]] (.own<|.ah [.none,ak (bU ag (Y b) b (hv a n)<|hv b).a,ak (bU ag (Y b) b (hv a n)<|hv b).b]) [bk (bU ag (Y b) b (hv a n)<|hv b).n,ot<|f++av (bU ag (Y b) b (hv a n)<|hv b).o]:=by
 have ya:=jL oa g0
 have yb:=jL ob g1
 have le:∀{k m},N<=k->m<=6->m<=k:=λh l=>aj l (aj hN h)
 have HA:=A n f d.a
 cases hb:Y b with
 |true=>
  rw[hb] at yb
  have HB:=B (keep ag<|hv a n).n (f++av (keep ag<|hv a n).o) (Cd d)
  have HK:=yJ (late:=ag) (f:=f) (w5 oa d.a.2) d.k (aF 1)
  show ao (N+1) 14 _ _ _ [_,ot<|f++av ((keep ag<|hv a n).o++(hv b (keep ag<|hv a n).n).o)]
  rw[uG]
  cases ha:Y a with
  |true=>rw[ha] at ya;exact ao.go [.call (.val<|.bool ag) [],.call (.val<|.bool ae) [],.call (.val<|.bool ae) [],.au 2 ae,.call (.val<|ak (hv a n).e) [bk (hv a n).n,ot<|f++av (hv a n).o],.call (.val<|ak (keep ag<|hv a n).e) [bk (keep ag<|hv a n).n,ot<|f++av (keep ag<|hv a n).o],.au 0 ae,.call (.val<|ak (hv b (keep ag<|hv a n).n).e) [bk (hv b (keep ag<|hv a n).n).n,ot<|(f++av (keep ag<|hv a n).o)++av (hv b (keep ag<|hv a n).n).o]] λk hk z=>(an (iY k<|le hk aa)<|an (ya k<|le hk aa) (an (yb k<|le hk aa)<|an (eM a []) (an (HA k hk)<|an (HK k<|le hk aa) (an (eM b [])<|an (HB k hk) z))))
  |false=>rw[ha] at ya;exact ao.go [.call (.val<|.bool ag) [],.call (.val<|.bool ag) [],.call (.val<|.bool ae) [],.au 2 ae,.call (.val<|ak (hv a n).e) [bk (hv a n).n,ot<|f++av (hv a n).o],.call (.val<|ak (keep ag<|hv a n).e) [bk (keep ag<|hv a n).n,ot<|f++av (keep ag<|hv a n).o],.au 0 ae,.call (.val<|ak (hv b (keep ag<|hv a n).n).e) [bk (hv b (keep ag<|hv a n).n).n,ot<|(f++av (keep ag<|hv a n).o)++av (hv b (keep ag<|hv a n).n).o]] λk hk z=>(an (iY k<|le hk aa)<|an (ya k<|le hk aa) (an (yb k<|le hk aa)<|an (eM a []) (an (HA k hk)<|an (HK k<|le hk aa) (an (eM b [])<|an (HB k hk) z))))
 |false=>
  rw[hb] at yb
  cases ha:Y a with
  |true=>rw[ha] at ya;exact ao.go [.call (.val<|.bool ag) [],.call (.val<|.bool ae) [],.call (.val<|.bool ag) [],.au 2 ae,.call (.val<|ak (hv a n).e) [bk (hv a n).n,ot<|f++av (hv a n).o],.au 1 ae] λk hk z=>(an (iY k<|le hk aa)<|an (ya k<|le hk aa) (an (yb k<|le hk aa)<|an (eM a []) (an (HA k hk)<|an (eM b []) z)))
  |false=>
   rw[ha] at ya
   show ao (N+1) 14 _ _ _ [bk (hv a n).n,ot<|f++av (hv a n).o]
   rw[show bU ag ag b (hv a n) (hv b)=⟨(hv a n).e,b,(hv a n).n,(hv a n).o⟩ from rfl,mB a ha n]
   show ao (N+1) 14 _ _ _ [_,ot<|f++[]]
   rw[fy]
   exact ao.go [.call (.val<|.bool ag) [],.call (.val<|.bool ag) [],.call (.val<|.bool ag) [],.au 2 ae,.au 1 ae] λk hk z=>(an (iY k<|le hk aa)<|an (ya k<|le hk aa) (an (yb k<|le hk aa)<|an (eM a []) (an (eM b []) z)))
theorem WE(A:HV N a)(B:HV N b)(oa:aL ae h₀ a)(ob:aL ae h₁ b)(g0:h₀<=10000)(g1:h₁<=10000)(d:Bd f n (tE a+tE b+1))(hN:6<=N):ao (N+1) 14 [bk n,ot f] [.list [.none,ak a,.none,ak b],.list [.bool ag,.bool ag,.bool ag,.bool ag]] (.own<|.ah [.none,ak (bU ag (Y b) b (hv a n)<|hv b).a,.none,ak (bU ag (Y b) b (hv a n)<|hv b).b]) [bk (bU ag (Y b) b (hv a n)<|hv b).n,ot<|f++av (bU ag (Y b) b (hv a n)<|hv b).o]:=by
 have ya:=jL oa g0
 have yb:=jL ob g1
 have le:∀{k m},N<=k->m<=6->m<=k:=λh l=>aj l (aj hN h)
 have HA:=A n f d.a
 cases hb:Y b with
 |true=>
  rw[hb] at yb
  have HB:=B (keep ag<|hv a n).n (f++av (keep ag<|hv a n).o) (Cd d)
  have HK:=yJ (late:=ag) (f:=f) (w5 oa d.a.2) d.k (aF 1)
  show ao (N+1) 14 _ _ _ [_,ot<|f++av ((keep ag<|hv a n).o++(hv b (keep ag<|hv a n).n).o)]
  rw[uG]
  cases ha:Y a with
  |true=>rw[ha] at ya;exact ao.go [.call (.val<|.bool ag) [],.call (.val<|.bool ae) [],.call (.val<|.bool ag) [],.call (.val<|.bool ae) [],.au 2 ae,.call (.val<|ak (hv a n).e) [bk (hv a n).n,ot<|f++av (hv a n).o],.call (.val<|ak (keep ag<|hv a n).e) [bk (keep ag<|hv a n).n,ot<|f++av (keep ag<|hv a n).o],.au 1 ae,.call (.val<|ak (hv b (keep ag<|hv a n).n).e) [bk (hv b (keep ag<|hv a n).n).n,ot<|(f++av (keep ag<|hv a n).o)++av (hv b (keep ag<|hv a n).n).o]] λk hk z=>(an (iY k<|le hk aa)<|an (ya k<|le hk aa) (an (iY k<|le hk aa)<|an (yb k<|le hk aa) (an (eM a [])<|an (HA k hk) (an (HK k<|le hk aa)<|an (eM b []) (an (HB k hk) z)))))
  |false=>rw[ha] at ya;exact ao.go [.call (.val<|.bool ag) [],.call (.val<|.bool ag) [],.call (.val<|.bool ag) [],.call (.val<|.bool ae) [],.au 2 ae,.call (.val<|ak (hv a n).e) [bk (hv a n).n,ot<|f++av (hv a n).o],.call (.val<|ak (keep ag<|hv a n).e) [bk (keep ag<|hv a n).n,ot<|f++av (keep ag<|hv a n).o],.au 1 ae,.call (.val<|ak (hv b (keep ag<|hv a n).n).e) [bk (hv b (keep ag<|hv a n).n).n,ot<|(f++av (keep ag<|hv a n).o)++av (hv b (keep ag<|hv a n).n).o]] λk hk z=>(an (iY k<|le hk aa)<|an (ya k<|le hk aa) (an (iY k<|le hk aa)<|an (yb k<|le hk aa) (an (eM a [])<|an (HA k hk) (an (HK k<|le hk aa)<|an (eM b []) (an (HB k hk) z)))))
 |false=>
  rw[hb] at yb
  cases ha:Y a with
  |true=>rw[ha] at ya;exact ao.go [.call (.val<|.bool ag) [],.call (.val<|.bool ae) [],.call (.val<|.bool ag) [],.call (.val<|.bool ag) [],.au 2 ae,.call (.val<|ak (hv a n).e) [bk (hv a n).n,ot<|f++av (hv a n).o],.au 2 ae] λk hk z=>(an (iY k<|le hk aa)<|an (ya k<|le hk aa) (an (iY k<|le hk aa)<|an (yb k<|le hk aa) (an (eM a [])<|an (HA k hk) (an (eM b []) z))))
  |false=>
   rw[ha] at ya
   show ao (N+1) 14 _ _ _ [bk (hv a n).n,ot<|f++av (hv a n).o]
   rw[show bU ag ag b (hv a n) (hv b)=⟨(hv a n).e,b,(hv a n).n,(hv a n).o⟩ from rfl,mB a ha n]
   show ao (N+1) 14 _ _ _ [_,ot<|f++[]]
   rw[fy]
   exact ao.go [.call (.val<|.bool ag) [],.call (.val<|.bool ag) [],.call (.val<|.bool ag) [],.call (.val<|.bool ag) [],.au 2 ae,.au 2 ae] λk hk z=>(an (iY k<|le hk aa)<|an (ya k<|le hk aa) (an (iY k<|le hk aa)<|an (yb k<|le hk aa) (an (eM a [])<|an (eM b []) z)))
theorem WH(A:HV N a)(B:HV N b)(oa:aL ae h₀ a)(ob:aL ae h₁ b)(g0:h₀<=10000)(g1:h₁<=10000)(d:Bd f n (tE a+tE b+1))(hN:6<=N):ao (N+1) 14 [bk n,ot f] [.list [bO (.str et),ak a,ak b],.list [.bool ag,.bool ag,.bool ag]] (.own<|.ah [bO (.str et),ak (bU ag (Y b) b (hv a n)<|hv b).a,ak (bU ag (Y b) b (hv a n)<|hv b).b]) [bk (bU ag (Y b) b (hv a n)<|hv b).n,ot<|f++av (bU ag (Y b) b (hv a n)<|hv b).o]:=by
 have ya:=jL oa g0
 have yb:=jL ob g1
 have le:∀{k m},N<=k->m<=6->m<=k:=λh l=>aj l (aj hN h)
 have HA:=A n f d.a
 cases hb:Y b with
 |true=>
  rw[hb] at yb
  have HB:=B (keep ag<|hv a n).n (f++av (keep ag<|hv a n).o) (Cd d)
  have HK:=yJ (late:=ag) (f:=f) (w5 oa d.a.2) d.k (aF 1)
  show ao (N+1) 14 _ _ _ [_,ot<|f++av ((keep ag<|hv a n).o++(hv b (keep ag<|hv a n).n).o)]
  rw[uG]
  cases ha:Y a with
  |true=>rw[ha] at ya;exact ao.go [.call (.val<|.bool ag) [],.call (.val<|.bool ae) [],.call (.val<|.bool ae) [],.call (.val<|bO (.str et)) [bk n,ot f],.call (.val<|bO (.str et)) [bk n,ot f],.au 0 ae,.call (.val<|ak (hv a n).e) [bk (hv a n).n,ot<|f++av (hv a n).o],.call (.val<|ak (keep ag<|hv a n).e) [bk (keep ag<|hv a n).n,ot<|f++av (keep ag<|hv a n).o],.au 0 ae,.call (.val<|ak (hv b (keep ag<|hv a n).n).e) [bk (hv b (keep ag<|hv a n).n).n,ot<|(f++av (keep ag<|hv a n).o)++av (hv b (keep ag<|hv a n).n).o]] λk hk z=>(an (oB (.str et) k<|le hk aa)<|an (ya k<|le hk aa) (an (yb k<|le hk aa)<|an (HG (n:=n) (f:=f) (.str et) k<|le hk aa) (an (GI (n:=n) (f:=f) (la:=ag) (.str et) k<|le hk aa)<|an (eM a []) (an (HA k hk)<|an (HK k<|le hk aa) (an (eM b [])<|an (HB k hk) z)))))
  |false=>rw[ha] at ya;exact ao.go [.call (.val<|.bool ag) [],.call (.val<|.bool ag) [],.call (.val<|.bool ae) [],.call (.val<|bO (.str et)) [bk n,ot f],.call (.val<|bO (.str et)) [bk n,ot f],.au 0 ae,.call (.val<|ak (hv a n).e) [bk (hv a n).n,ot<|f++av (hv a n).o],.call (.val<|ak (keep ag<|hv a n).e) [bk (keep ag<|hv a n).n,ot<|f++av (keep ag<|hv a n).o],.au 0 ae,.call (.val<|ak (hv b (keep ag<|hv a n).n).e) [bk (hv b (keep ag<|hv a n).n).n,ot<|(f++av (keep ag<|hv a n).o)++av (hv b (keep ag<|hv a n).n).o]] λk hk z=>(an (oB (.str et) k<|le hk aa)<|an (ya k<|le hk aa) (an (yb k<|le hk aa)<|an (HG (n:=n) (f:=f) (.str et) k<|le hk aa) (an (GI (n:=n) (f:=f) (la:=ag) (.str et) k<|le hk aa)<|an (eM a []) (an (HA k hk)<|an (HK k<|le hk aa) (an (eM b [])<|an (HB k hk) z)))))
 |false=>
  rw[hb] at yb
  cases ha:Y a with
  |true=>rw[ha] at ya;exact ao.go [.call (.val<|.bool ag) [],.call (.val<|.bool ae) [],.call (.val<|.bool ag) [],.call (.val<|bO (.str et)) [bk n,ot f],.call (.val<|bO (.str et)) [bk n,ot f],.au 0 ae,.call (.val<|ak (hv a n).e) [bk (hv a n).n,ot<|f++av (hv a n).o],.au 1 ae] λk hk z=>(an (oB (.str et) k<|le hk aa)<|an (ya k<|le hk aa) (an (yb k<|le hk aa)<|an (HG (n:=n) (f:=f) (.str et) k<|le hk aa) (an (GI (n:=n) (f:=f) (la:=ag) (.str et) k<|le hk aa)<|an (eM a []) (an (HA k hk)<|an (eM b []) z))))
  |false=>
   rw[ha] at ya
   show ao (N+1) 14 _ _ _ [bk (hv a n).n,ot<|f++av (hv a n).o]
   rw[show bU ag ag b (hv a n) (hv b)=⟨(hv a n).e,b,(hv a n).n,(hv a n).o⟩ from rfl,mB a ha n]
   show ao (N+1) 14 _ _ _ [_,ot<|f++[]]
   rw[fy]
   exact ao.go [.call (.val<|.bool ag) [],.call (.val<|.bool ag) [],.call (.val<|.bool ag) [],.au 3 ae,.au 1 ae] λk hk z=>(an (oB (.str et) k<|le hk aa)<|an (ya k<|le hk aa) (an (yb k<|le hk aa)<|an (eM a []) (an (eM b []) z)))
theorem WJ:ao 6 14 [bk n,ot f] [.list [.none,.none],.list [.bool ag,.bool ag]] (.own<|.ah [.none,.none]) [bk n,ot f]:=
 ao.go [.call (.val<|.bool ag) [],.call (.val<|.bool ag) []] λk hk z=>an (iY k hk) (an (iY k hk) z)
end
section
variable{N n h₀:ai}{f:af V}{a b e:E}{t:ai}
theorem h9{j k:ai}(hN:9<=N)(hk:N+j<=k):9<=k:=aj hN (aj (aW N j) hk)
theorem yy{y:az}(o:aL ae h₀ e)(g:h₀<=10000)(h:Y e=y):ao 9 7 [] [ak e] (.val<|.bool y) []:=h▸(jL o g).aU aa
theorem HV.same(o:aL ae h₀ e)(g:h₀<=10000)(hN:9<=N)(H:Y e=ae->HV (N+1) e):HV (N+1) e:=by
 cases q:Y e with
 |true=>exact H q|false=>
  intro n f d
  rw[mB e q n]
  show ao (N+1) 15 _ _ _ [_,ot<|f++[]]
  rw[fy]
  exact ao.go [.call (.val<|.bool ag) []] λk hk z=>an (yy o g q k<|h9 (j:=0) hN hk) z
theorem HV.go{g:ai}{r:V}{cE:Rs}(y:ao 9 7 [] [ak e] (.val<|.bool ae) [])(h:ao N g [bk n,ot f] [ak e] (.val r) cE)(hN:9<=N)
  (w:∀k,dK (b5 a8 k) (dQ a8) Q9 [bk n,ot f] (slots [ae,ae,ag] 0 [ak e]++eW 3 aw) [.call (.val<|.bool ae) [],.call (.val r) cE] (λfl rs _ _=>a6 2 fl rs=ab (.val r,cE))=(b5 a8 k 7 [] [ak e] (.val<|.bool ae) []/\b5 a8 k g [bk n,ot f] [ak e] (.val r) cE/\ab (MV.val r,cE)=ab (.val r,cE))):ao (N+1) 15 [bk n,ot f] [ak e] (.val r) cE:=
 ao.go [.call (.val<|.bool ae) [],.call (.val r) cE] (λk hk z=>an (y k<|h9 (j:=0) hN hk)<|an (h k hk) z) (e:=w)
theorem OH(rs:Rs)(h:ia e=ae):cv .dt (.val<|.str (hd<|ak e)) (.val<|.tuple [.str fC,.str jN]) rs=ab ae:=(zm _ _ _ rs).trans (ay ab<|(Nv.ak e).Co.trans h)
theorem Bh{x:H}(hy:ia e=ae)(y:ao 9 7 [] [ak e] (.val<|.bool ae) [])(hb:ao N 16 [bk (n+1),ot f] [ak e] (.val<|ak x.e) [bk x.n,ot<|f++av x.o])(hn:n+1<=12000)(hf:(f++av x.o).length+1<=100000)(hN:9<=N):
  ao (N+1) 15 [bk n,ot f] [ak e] (.val<|ak (kH (n+1) x).e) [bk (kH (n+1) x).n,ot<|f++av (kH (n+1) x).o]:=by
 show ao (N+1) 15 _ _ _ [_,ot<|f++av (x.o++[cB (aG<|n+1) x.e])]
 rw[iD]
 exact ao.go [.call (.val<|.bool ae) [],.aK 0 (.val<|.str (hd<|ak e)),.au 0 ae,.call (.val<|cy (aG<|n+1)) [bk<|n+1],.call (.val<|ak x.e) [bk x.n,ot<|f++av x.o],.call (.val .none) [ot<|(f++av x.o)++[ei (aG<|n+1)<|ak x.e]]] λk hk z=>have q:=h9 (j:=0) hN hk;an (y k q) (an (i0 e [bk n,ot f])<|an (OH [bk n,ot f] hy) (an (nU hn k<|aj aa q)<|an (hb k hk) (an (nT (t:=aG<|n+1) (v:=ak x.e) hf k<|aj aa q) z)))
theorem Bd.up{j:ai}(d:Bd f n t)(l:j+1<=t):Bd f (n+1) j:=⟨aj (bK (eL l) _) d.1,aj (bA<|Au n j)<|aj (bK l n) d.2⟩
theorem Q7:ao 7 16 [bk n,ot f] [ak .y0] (.val<|ak .y0) [bk n,ot f]:=ao.go [.call (.own<|.ah [.none,.none]) [bk n,ot f]] λk hk z=>an (WJ (n:=n) (f:=f) k hk) z
theorem HV.y0:HV 10 .y0:=λn f d=>by
 have hf:f++av []=f:=fy f
 exact Bh (x:=⟨.y0,n+1,[]⟩) rfl (yy (h₀:=0) .y0 aa rfl) ((show f++av []=f from fy f).symm▸(Q7 (n:=n+1) (f:=f)).aU aa) (d.n1<|aF 1) (hf.symm▸d.f1 (aF 1)) aa
theorem Q6(A:HV N e)(o:aL ae h₀ e)(g:h₀<=10000)(d:Bd f n (tE e))(hN:9<=N):ao (N+2) 16 [bk n,ot f] [ak<|.un .y1 e] (.val<|ak (.un .y1 (hv e n).e)) [bk (hv e n).n,ot<|f++av (hv e n).o]:=
 ao.go [.call (.own<|.ah [.none,ak (hv e n).e]) [bk (hv e n).n,ot<|f++av (hv e n).o]] λk hk z=>an (E2 A o g d (aj aa hN) k hk) z
theorem Q4(A:HV N e)(o:aL ae h₀ e)(g:h₀<=10000)(d:Bd f n (tE e))(hN:9<=N):ao (N+2) 16 [bk n,ot f] [ak<|.un .yf e] (.val<|ak (.un .yf (hv e n).e)) [bk (hv e n).n,ot<|f++av (hv e n).o]:=
 ao.go [.call (.own<|.ah [ak (hv e n).e]) [bk (hv e n).n,ot<|f++av (hv e n).o]] λk hk z=>an (WI A o g d (aj aa hN) k hk) z
theorem Q5(A:HV N a)(B:HV N b)(oa:aL ae h₀ a)(ob:aL ae h₀ b)(g:h₀<=10000)(d:Bd f n (tE a+tE b+1))(hN:9<=N):
  ao (N+2) 16 [bk n,ot f] [ak<|.bi .y2 a b] (.val<|ak (.bi .y2 (bU ag (Y b) b (hv a n)<|hv b).a (bU ag (Y b) b (hv a n)<|hv b).b)) [bk (bU ag (Y b) b (hv a n)<|hv b).n,ot<|f++av (bU ag (Y b) b (hv a n)<|hv b).o]:=by
 have s:=E4 (la:=ag) (lb:=ag) A B oa ob g g d (aj aa hN)
 revert s
 generalize bU ag (Y b) b (hv a n) (hv b)=q
 exactλs=>ao.go [.call (.own<|.ah [ak q.a,ak q.b]) [bk q.n,ot<|f++av q.o]] λk hk z=>an (s k hk) z
theorem HV.y1(A:HV N e)(o:aL ae h₀ e)(g:h₀<=9000)(hN:9<=N):HV (N+3) (.un .y1 e):=λn f d=>
 have d':Bd f (n+1) (tE e):=d.up (aF _)
 Bh (N:=N+2) (x:=⟨.un .y1 (hv e<|n+1).e,(hv e<|n+1).n,(hv e<|n+1).o⟩) rfl (yy (aL.un (u:=.y1) trivial o) (aj (bG g) aa) rfl) (Q6 A o (aj g aa) d' hN) (d.n1<|bG (bQ _))
  (aj (bG (d'.wi (t':=0) (cg e<|n+1)<|aF _).1) aa) (aj hN<|aW N 2)
theorem HV.yf(A:HV N e)(o:aL ae h₀ e)(g:h₀<=9000)(hN:9<=N):HV (N+3) (.un .yf e):=λn f d=>
 have d':Bd f (n+1) (tE e):=d.up (aF _)
 Bh (N:=N+2) (x:=⟨.un .yf (hv e<|n+1).e,(hv e<|n+1).n,(hv e<|n+1).o⟩) rfl (yy (aL.un (u:=.yf) trivial o) (aj (bG g) aa) rfl) (Q4 A o (aj g aa) d' hN) (d.n1<|bG (bQ _))
  (aj (bG (d'.wi (t':=0) (cg e<|n+1)<|aF _).1) aa) (aj hN<|aW N 2)
theorem HV.y2(A:HV N a)(B:HV N b)(oa:aL ae h₀ a)(ob:aL ae h₀ b)(g:h₀<=9000)(hN:9<=N):HV (N+3) (.bi .y2 a b):=λn f d=>by
 have d':Bd f (n+1) (tE a+tE b+1):=d.up (aR _)
 have w:Wi (n+1) (tE a+tE b+1) (pr (.bi .y2) ag (Y b) b (hv a<|n+1)<|hv b):=(cg a<|n+1).pr (cg b)
 have s:=Q5 A B oa ob (aj g aa) d' hN
 show ao (N+3) 15 _ _ (.val<|ak (kH (n+1)<|pr (.bi .y2) ag (Y b) b (hv a<|n+1) (hv b)).e) [bk (kH (n+1)<|pr (.bi .y2) ag (Y b) b (hv a<|n+1) (hv b)).n,ot<|f++av (kH (n+1)<|pr (.bi .y2) ag (Y b) b (hv a<|n+1) (hv b)).o]
 rw[rJ] at w ⊢
 exact Bh (N:=N+2) rfl (yy (aL.bi (w:=.y2) oa ob) (aj (bG g) aa) rfl) s (d.n1<|bG (bQ _))
  (aj (bG (d'.wi (t':=0) w<|aF _).1) aa) (aj hN<|aW N 2)
theorem s1(g:h₀<=9000):h₀+1<=10000:=aj (bG g) aa
theorem s0(g:h₀<=9000):h₀<=10000:=aj g aa
theorem HV.plain{u:U}(hu:u=.nt\/u=.neg\/u=.fF\/u=.iS\/u=.jP)(A:HV N e)(o:aL ae h₀ e)(g:h₀<=9000)(hN:9<=N):HV (N+2) (.un u e):=by
 have ok:aL ae (h₀+1) (.un u e):=.un (by rcases hu with rfl|rfl|rfl|rfl|rfl<;>trivial) o
 have h':9<=N+1:=aj hN (aR N)
 refine HV.same ok (s1 g) h' λhy n f d=>?_
 have a:=A n f (d.le<|aR _)
 have y:=yy ok (s1 g) hy
 rcases hu with rfl|rfl|rfl|rfl|rfl<;>
 exact HV.go (g:=17) y (ao.go [.call (.val<|ak (hv e n).e) [bk (hv e n).n,ot<|f++av (hv e n).o]] λk hk z=>an (a k hk) z) h' (λk=>by kernel_rfl)
theorem ag7(y:ao 9 7 [] [ak e] (.val<|.bool ae) [])(A:HV N e)(o:aL ae h₀ e)(g:h₀<=10000)(d:Bd f n (tE e))(hN:9<=N):
  ao (N+2) 26 [bk n,ot f] [.list [.none],.tuple [.tuple [ak e,.bool ag,.none]]] (.val<|.tuple [.list [.none],.tuple [.tuple [ak (hv e n).e,.bool ag,.none]]]) [bk (hv e n).n,ot<|f++av (hv e n).o]:=
 ao.go [.call (.val<|.bool ae) [],.call (.val<|ak e) [],.call (.own<|.ah [.none,ak (hv e n).e]) [bk (hv e n).n,ot<|f++av (hv e n).o]] λk hk z=>an (y k<|h9 hN hk) (an (h8 (e:=e) ag k<|aj aa (h9 hN hk))<|an (E2 A o g d (aj aa hN) k hk) z)
theorem HV.CV(A:HV N e)(o:aL ae h₀ e)(g:h₀<=9000)(hN:9<=N):HV (N+4) (.un .call e):=by
 have ok:aL ae (h₀+1) (.un .call e):=.un trivial o
 have h':9<=N+3:=aj hN (aW N 3)
 refine HV.same ok (s1 g) h' λhy n f d=>?_
 have a:=ag7 (n:=n) (f:=f) (yy o (s0 g) hy) A o (s0 g) (d.le<|aR _) hN
 exact HV.go (g:=27) (yy ok (s1 g) hy) (ao.go [.call (.val .none) [],.call (.val<|.tuple [.list [.none],.tuple [.tuple [ak (hv e n).e,.bool ag,.none]]]) [bk (hv e n).n,ot<|f++av (hv e n).o]] λk hk z=>an (Md k<|aj aa (h9 hN hk))<|an (a k hk) z) h' (λk=>by kernel_rfl)
theorem iJ{x:aq}(b:az):ao 1 28 [bk n,ot f] [cy x,.bool b] (.val<|cy x) [bk n,ot f]:=ao.go [] λ_ _ z=>z
theorem HV.aN{u:U}{x:aq}(hx:Nm ae x)(hu:u=.aN x\/u=.op ae x\/u=.op ag x)(A:HV N e)(o:aL ae h₀ e)(g:h₀<=9000)(hN:9<=N):HV (N+2) (.un u e):=by
 have ok:aL ae (h₀+1) (.un u e):=.un (by rcases hu with rfl|rfl|rfl<;>exact hx) o
 have h':9<=N+1:=aj hN (aR N)
 refine HV.same ok (s1 g) h' λhy n f d=>?_
 have a:=A n f (d.le<|aR _)
 have y:=yy ok (s1 g) hy
 rcases hu with rfl|rfl|rfl<;>
 exact HV.go (g:=30) y (ao.go [.call (.val<|.bool ae) [],.call (.val<|cy x) [bk n,ot f],.call (.val<|ak (hv e n).e) [bk (hv e n).n,ot<|f++av (hv e n).o]] λk hk z=>an (yy o (s0 g) hy k<|h9 (j:=0) hN hk)<|an (iJ (n:=n) (f:=f) (x:=x) ae k<|aj aa (h9 (j:=0) hN hk)) (an (a k hk) z)) h' (λk=>by kernel_rfl)
theorem z5{y:az}(o:aL ae h₀ e)(g:h₀<=10000)(h:Y e=y):ao 9 8 [] [.tuple [.none,ak e]] (.val<|.bool y) []:=h▸(Iq (y:=ag) iY<|jL o g).aU aa
theorem HV.Rp{sp:az}(A:HV N e)(o:aL ae h₀ e)(g:h₀<=9000)(hN:9<=N):HV (N+3) (.un (.bS sp) e):=by
 have ok:aL ae (h₀+1) (.un (.bS sp) e):=.un trivial o
 have h':9<=N+2:=aj hN (aW N 2)
 refine HV.same ok (s1 g) h' λhy n f d=>?_
 have y:=z5 o (s0 g) hy
 have y':=yy ok (s1 g) hy
 have s:=E2 (n:=n) (f:=f) A o (s0 g) (d.le<|aR _) (aj aa hN)
 cases sp<;>
 exact HV.go (g:=25) y' (ao.go [.call (.val<|.bool ae) [],.call (.val<|ak e) [],.call (.own<|.ah [.none,ak (hv e n).e]) [bk (hv e n).n,ot<|f++av (hv e n).o]] λk hk z=>an (y k<|h9 hN hk)<|an (h8 (e:=e) ag k<|aj aa (h9 hN hk)) (an (s k hk) z)) h' (λk=>by kernel_rfl)
theorem HV.cZ{w v:V}(hw:dr 0 w)(G0:dr 0 v)(A:HV N e)(o:aL ae h₀ e)(g:h₀<=9000)(hN:9<=N):HV (N+2) (.cZ e w v):=by
 have ok:aL ae (h₀+1) (.cZ e w v):=.cZ o hw G0
 have h':9<=N+1:=aj hN (aR N)
 refine HV.same ok (s1 g) h' λhy n f d=>?_
 have s:=A n f (d.le<|aW _ 4)
 exact HV.go (g:=17) (yy ok (s1 g) hy) (ao.go [.call (.val<|.bool ag) [],.call (.val<|.bool ag) [],.call (.val<|.bool ag) [],.call (.val<|ak (hv e n).e) [bk (hv e n).n,ot<|f++av (hv e n).o]] λk hk z=>have q:=h9 (j:=0) hN hk;an (oB (.int 7) k<|aj aa q) (an (Iq (oB w) (oB v) k<|aj aa q)<|an (oB (.int 8) k<|aj aa q) (an (s k hk) z))) h' (λk=>by kernel_rfl)
end
section
noncomputable def zV:E->E
 | .la l a b=>match l with
  | .cS=>zV a|l=>.la l a b
 |e=>e
def LK(k:ai)(rs:Rs)(vs:Vs)(os:Os)(K:az->Rs->Os->Prop):Prop:=wT (b5 a8 k) (dQ a8) (.au .dt (.aK (.var 0)<|.lit (.int 0))<|.aC [.lit (.str kc),.lit (.str BG),.lit<|.str BH]) rs vs os λ_=>K
def WO:af ST:=[.ite (.cw ag [.cw ae [.au .eq (.aK (.var 0)<|.lit (.int 0)) (.lit<|.str BG),.aK (.var 0)<|.lit (.int 3)],.cw ae [.au .eq (.aK (.var 0)<|.lit (.int 0)) (.lit<|.str BH),.aK (.var 0)<|.lit (.int 4)]]) [.ret<|.lit (.bool ae)] [],.aN 0<|.aK (.var 0) (.lit<|.int 1)]
def LL(k:ai)(rs:Rs)(vs:Vs)(os:Os)(K:Fl->Rs->Vs->Os->Prop):Prop:=dK (b5 a8 k) (dQ a8) WO rs vs os K
def Sc(k:ai)(e:E):Prop:=∃(n:ai)(os:Os),oG (LK k) (LL k) n [] [ab<|.val (ak e)] os λfl rs vs _=>fl=.nx/\rs=[]/\vs=[ab<|.val (ak<|zV e)]
end
theorem Sc.yt{k:ai}(e:E)(h:zV e=e)(w:∀d,oG (LK k) (LL k) 1 [] [ab<|.val (ak e)] [] (λfl rs vs _=>fl=.nx/\rs=[]/\vs=[ab<|.val d])=(Fl.nx=.nx/\([]:Rs)=[]/\[ab<|MV.val (ak e)]=[ab<|.val d])):Sc k e:=
 ⟨1,[],cR ⟨rfl,rfl,ay (λx=>[ab<|MV.val (ak x)]) h.symm⟩<|w (ak<|zV e)⟩
theorem WN(k:ai)(e:E):Sc k e:=by
 induction e with
 |la l a b aE aJ=>
  cases l with
  |bq o=>exact .yt _ rfl λd=>by kernel_rfl
  |cS=>exact aE.imp' (·+1) λn=>.imp' ([.tr 0 ae,.tr 3 ag,.aK 0<|.val (ak a)]++·) λos z=>cR (an (show fM (.val<|.bool ae) []=ab ae from rfl)<|an (show fM (.val<|.bool ag) []=ab ag from rfl) (an (show e9 (.val<|ak (.la .cS a b)) (.int 1) []=ab (.val<|ak a) from rfl) z)) (by kernel_rfl)
 |un u e=>cases u<;>exact .yt _ rfl λd=>by kernel_rfl
 |bi w a b=>cases w<;>exact .yt _ rfl λd=>by kernel_rfl
 |cN o a b=>cases o<;>exact .yt _ rfl λd=>by kernel_rfl
 |_=>exact .yt _ rfl λd=>by kernel_rfl
theorem Xz(e:E):ao 1 18 [] [ak e] (.val<|.bool ag) []:=ao.go [.lp .nx [] [ab<|.val (ak<|zV e)]] λk hk z=>an (WN k e) z
theorem Fa(e:E)(d:V):ao 2 19 [] [ak e,d] (.val .none) []:=ao.go [.call (.val<|.bool ag) []] λk hk z=>an (Xz e k hk) z
section
variable{N n h₀:ai}{f:af V}{a b e i:E}
theorem n6(hN:9<=N):6<=N:=aj aa hN
theorem Bd.d1{x y:ai}(d:Bd f n (x+y+2)):Bd f n (x+y+1):=d.le (aR _)
theorem Bd.d2{x y:ai}(d:Bd f n (x+y+3)):Bd f n (x+y+1):=d.le (aW _ 2)
theorem Bd.a2{d:ai}(h:Bd f n (tE a+tE b+d)):Bd f n (tE a):=h.le (aj (aW _ (tE b))<|aW _ d)
theorem ag6{q:C6}{p r:az}(ya:ao 9 7 [] [ak a] (.val<|.bool p) [])(yb:ao 9 7 [] [ak b] (.val<|.bool r) [])(hN:9<=N)
  (s:ao (N+1) 14 [bk n,ot f] [.list [.none,ak a,ak b],.list [.bool ag,.bool ag,.bool ag]] (.own<|.ah [.none,ak q.a,ak q.b]) [bk q.n,ot<|f++av q.o]):
  ao (N+2) 26 [bk n,ot f] [.list [.none],.tuple [.tuple [ak a,.bool ag,.none],.tuple [ak b,.bool ag,.none]]] (.val<|.tuple [.list [.none],.tuple [.tuple [ak q.a,.bool ag,.none],.tuple [ak q.b,.bool ag,.none]]]) [bk q.n,ot<|f++av q.o]:=by
 cases p with
 |true=>
  cases r with
  |true=>exact ao.go [.call (.val<|.bool ae) [],.call (.val<|.bool ae) [],.call (.val<|ak a) [],.call (.val<|ak b) [],.call (.own<|.ah [.none,ak q.a,ak q.b]) [bk q.n,ot<|f++av q.o]] λk hk z=>an (ya k<|h9 hN hk) (an (yb k<|h9 hN hk)<|an (h8 (e:=a) ag k<|aj aa (h9 hN hk)) (an (h8 (e:=b) ag k<|aj aa (h9 hN hk))<|an (s k hk) z))|false=>exact ao.go [.call (.val<|.bool ae) [],.call (.val<|.bool ag) [],.call (.val<|ak a) [],.call (.val<|ak b) [],.call (.own<|.ah [.none,ak q.a,ak q.b]) [bk q.n,ot<|f++av q.o]] λk hk z=>an (ya k<|h9 hN hk) (an (yb k<|h9 hN hk)<|an (h8 (e:=a) ag k<|aj aa (h9 hN hk)) (an (h8 (e:=b) ag k<|aj aa (h9 hN hk))<|an (s k hk) z))
 |false=>
  cases r with
  |true=>exact ao.go [.call (.val<|.bool ag) [],.call (.val<|.bool ae) [],.call (.val<|ak a) [],.call (.val<|ak b) [],.call (.own<|.ah [.none,ak q.a,ak q.b]) [bk q.n,ot<|f++av q.o]] λk hk z=>an (ya k<|h9 hN hk) (an (yb k<|h9 hN hk)<|an (h8 (e:=a) ag k<|aj aa (h9 hN hk)) (an (h8 (e:=b) ag k<|aj aa (h9 hN hk))<|an (s k hk) z))|false=>exact ao.go [.call (.val<|.bool ag) [],.call (.val<|.bool ag) [],.call (.val<|ak a) [],.call (.val<|ak b) [],.call (.own<|.ah [.none,ak q.a,ak q.b]) [bk q.n,ot<|f++av q.o]] λk hk z=>an (ya k<|h9 hN hk) (an (yb k<|h9 hN hk)<|an (h8 (e:=a) ag k<|aj aa (h9 hN hk)) (an (h8 (e:=b) ag k<|aj aa (h9 hN hk))<|an (s k hk) z))
theorem HV.afe(A:HV N a)(B:HV N b)(oa:aL ae h₀ a)(ob:aL ae h₀ b)(g:h₀<=9000)(hN:9<=N):HV (N+4) (.bi .call a b):=by
 have ok:aL ae (h₀+1) (.bi .call a b):=.bi oa ob
 have h':9<=N+3:=aj hN (aW N 3)
 refine HV.same ok (s1 g) h' λhy n f d=>?_
 have y:=yy ok (s1 g) hy
 have s:=WG (n:=n) (f:=f) A B oa ob (s0 g) (s0 g) d.d2 (n6 hN)
 show ao (N+4) 15 _ _ (.val<|ak (pr (.bi .call) ag (Y b) b (hv a n)<|hv b).e) [bk (pr (.bi .call) ag (Y b) b (hv a n)<|hv b).n,ot<|f++av (pr (.bi .call) ag (Y b) b (hv a n)<|hv b).o]
 rw[rJ]
 revert s
 generalize bU ag (Y b) b (hv a n) (hv b)=q
 intro s
 exact HV.go (g:=27) y (ao.go [.call (.val .none) [],.call (.val<|.tuple [.list [.none],.tuple [.tuple [ak q.a,.bool ag,.none],.tuple [ak q.b,.bool ag,.none]]]) [bk q.n,ot<|f++av q.o]] λk hk z=>an (Md k<|aj aa (h9 hN hk))<|an (ag6 (yy oa (s0 g) rfl) (yy ob (s0 g) rfl) hN s k hk) z) h' (λk=>by kernel_rfl)
theorem HV.bq{o:O}(A:HV N a)(B:HV N b)(oa:aL ae h₀ a)(ob:aL ae h₀ b)(g:h₀<=9000)(hN:9<=N):HV (N+3) (.la (.bq o) a b):=by
 have ok:aL ae (h₀+1) (.la (.bq o) a b):=.la oa ob
 have h':9<=N+2:=aj hN (aW N 2)
 refine HV.same ok (s1 g) h' λhy n f d=>?_
 have y:=yy ok (s1 g) hy
 have s:=E4 (la:=ae) (lb:=ae) (n:=n) (f:=f) A B oa ob (s0 g) (s0 g) d.d1 (n6 hN)
 show ao (N+3) 15 _ _ (.val<|ak (pr (.la<|.bq o) ae (Y b) b (hv a n)<|hv b).e) [bk (pr (.la<|.bq o) ae (Y b) b (hv a n)<|hv b).n,ot<|f++av (pr (.la<|.bq o) ae (Y b) b (hv a n)<|hv b).o]
 rw[rJ]
 revert s
 generalize bU ae (Y b) b (hv a n) (hv b)=q
 intro s
 exact HV.go (g:=17) y (ao.go [.call (.own<|.ah [ak q.a,ak q.b]) [bk q.n,ot<|f++av q.o]] λk hk z=>an (s k hk) z) h' (λk=>by kernel_rfl)
theorem HV.cS(A:HV N a)(B:HV N b)(oa:aL ae h₀ a)(ob:aL ae h₀ b)(g:h₀<=9000)(hN:9<=N):HV (N+4) (.la .cS a b):=by
 have ok:aL ae (h₀+1) (.la .cS a b):=.la oa ob
 have h':9<=N+3:=aj hN (aW N 3)
 refine HV.same ok (s1 g) h' λhy n f d=>?_
 have y:=yy ok (s1 g) hy
 have s:=E4 (la:=ae) (lb:=ag) (n:=n) (f:=f) A B oa ob (s0 g) (s0 g) d.d1 (n6 hN)
 show ao (N+4) 15 _ _ (.val<|ak (pr (.la .cS) ae (Y b) b (hv a n)<|hv b).e) [bk (pr (.la .cS) ae (Y b) b (hv a n)<|hv b).n,ot<|f++av (pr (.la .cS) ae (Y b) b (hv a n)<|hv b).o]
 rw[rJ]
 revert s
 generalize bU ae (Y b) b (hv a n) (hv b)=q
 intro s
 have p:ao (N+2) 20 [bk n,ot f] [ak<|.la .cS a b] (.val<|ak (.la .cS q.a q.b)) [bk q.n,ot<|f++av q.o]:=
  ao.go [.call (.val .none) [],.call (.own<|.ah [ak q.a,ak q.b]) [bk q.n,ot<|f++av q.o]] λk hk z=>an (Fa (.la .cS a b) (.tuple [ak b]) k<|aj aa (h9 hN hk)) (an (s k hk) z)
 exact HV.go (g:=17) y (ao.go [.call (.val<|ak (.la .cS q.a q.b)) [bk q.n,ot<|f++av q.o]] λk hk z=>an (p k hk) z) h' (λk=>by kernel_rfl)
theorem VY(c:az)(o:aL ae h₀ a):∃h,h<=h₀+1/\aL ae h (mf c a):=aO (λx:E=>∃h,h<=h₀+1/\aL ae h x) (λ_=>⟨h₀+1,aF _,.un trivial o⟩) λ_=>⟨h₀,aR _,o⟩
theorem VZ(c:az):hv (mf c a) n=kL c (hv a n):=by cases c<;>rfl
theorem VW(c:az):tE (mf c a)<=tE a+1:=aO (λx:E=>tE x<=tE a+1) (λ_=>aF _) λ_=>aR _
theorem V0(c:az)(A:HV N a)(o:aL ae h₀ a)(g:h₀<=9000)(hN:9<=N):HV (N+3) (mf c a):=by
 cases c
 ·exact A.aU (aW N 3)
 ·exact HV.Rp A o g hN
theorem Zu{x y:az}(h:(x||y)=ae)(hy:y=ag):x=ae:=(cJ x).symm.trans ((ay (x||·) hy).symm.trans h)
theorem ag3{sa sb ya yb:az}{q:C6}(HF:(ya||yb)=ae)(y1:ao 9 8 [] [.tuple [.none,ak a]] (.val<|.bool ya) [])(y2:ao 9 8 [] [.tuple [.none,ak b]] (.val<|.bool yb) [])(hN:9<=N)
  (s:ao (N+4) 14 [bk n,ot f] [.list [.none,ak (mf (yb&&sa) a),.none,ak b],.list [.bool ag,.bool ag,.bool ag,.bool ag]] (.own<|.ah [.none,ak q.a,.none,ak q.b]) [bk q.n,ot<|f++av q.o]):
  ao (N+5) 25 [bk n,ot f] [ak<|.bi (.bS sa sb) a b] (.val<|ak (.bi (.bS sa sb) q.a q.b)) [bk q.n,ot<|f++av q.o]:=by
 cases yb with
 |true=>
  cases ya with
  |true=>
   cases sa with
   |true=>
    cases sb<;>
    exact ao.go [.call (.val<|.bool ae) [],.call (.val<|.bool ae) [],.call (.val<|ak (mf ae a)) [],.call (.val<|ak b) [],.call (.own<|.ah [.none,ak q.a,.none,ak q.b]) [bk q.n,ot<|f++av q.o]] λk hk z=>an (y1 k<|h9 hN hk) (an (y2 k<|h9 hN hk)<|an (h8 (e:=a) ae k<|aj aa (h9 hN hk)) (an (h8 (e:=b) ag k<|aj aa (h9 hN hk))<|an (s k hk) z))
   |false=>
    cases sb<;>
    exact ao.go [.call (.val<|.bool ae) [],.call (.val<|.bool ae) [],.call (.val<|ak (mf ag a)) [],.call (.val<|ak b) [],.call (.own<|.ah [.none,ak q.a,.none,ak q.b]) [bk q.n,ot<|f++av q.o]] λk hk z=>an (y1 k<|h9 hN hk) (an (y2 k<|h9 hN hk)<|an (h8 (e:=a) ag k<|aj aa (h9 hN hk)) (an (h8 (e:=b) ag k<|aj aa (h9 hN hk))<|an (s k hk) z))
  |false=>
   cases sa with
   |true=>
    cases sb<;>
    exact ao.go [.call (.val<|.bool ag) [],.call (.val<|.bool ae) [],.call (.val<|ak (mf ae a)) [],.call (.val<|ak b) [],.call (.own<|.ah [.none,ak q.a,.none,ak q.b]) [bk q.n,ot<|f++av q.o]] λk hk z=>an (y1 k<|h9 hN hk) (an (y2 k<|h9 hN hk)<|an (h8 (e:=a) ae k<|aj aa (h9 hN hk)) (an (h8 (e:=b) ag k<|aj aa (h9 hN hk))<|an (s k hk) z))
   |false=>
    cases sb<;>
    exact ao.go [.call (.val<|.bool ag) [],.call (.val<|.bool ae) [],.call (.val<|ak (mf ag a)) [],.call (.val<|ak b) [],.call (.own<|.ah [.none,ak q.a,.none,ak q.b]) [bk q.n,ot<|f++av q.o]] λk hk z=>an (y1 k<|h9 hN hk) (an (y2 k<|h9 hN hk)<|an (h8 (e:=a) ag k<|aj aa (h9 hN hk)) (an (h8 (e:=b) ag k<|aj aa (h9 hN hk))<|an (s k hk) z))
 |false=>
  cases ya with
  |true=>
   cases sa with
   |true=>
    cases sb<;>
    exact ao.go [.call (.val<|.bool ae) [],.call (.val<|.bool ag) [],.call (.val<|ak (mf ag a)) [],.call (.val<|ak b) [],.call (.own<|.ah [.none,ak q.a,.none,ak q.b]) [bk q.n,ot<|f++av q.o]] λk hk z=>an (y1 k<|h9 hN hk) (an (y2 k<|h9 hN hk)<|an (h8 (e:=a) ag k<|aj aa (h9 hN hk)) (an (h8 (e:=b) ag k<|aj aa (h9 hN hk))<|an (s k hk) z))
   |false=>
    cases sb<;>
    exact ao.go [.call (.val<|.bool ae) [],.call (.val<|.bool ag) [],.call (.val<|ak (mf ag a)) [],.call (.val<|ak b) [],.call (.own<|.ah [.none,ak q.a,.none,ak q.b]) [bk q.n,ot<|f++av q.o]] λk hk z=>an (y1 k<|h9 hN hk) (an (y2 k<|h9 hN hk)<|an (h8 (e:=a) ag k<|aj aa (h9 hN hk)) (an (h8 (e:=b) ag k<|aj aa (h9 hN hk))<|an (s k hk) z))
  |false=>cases HF
theorem HV.ag5{sa sb:az}(A:HV N a)(B:HV N b)(oa:aL ae h₀ a)(ob:aL ae h₀ b)(g:h₀<=9000)(hN:9<=N):HV (N+6) (.bi (.bS sa sb) a b):=by
 have ok:aL ae (h₀+1) (.bi (.bS sa sb) a b):=.bi oa ob
 have h':9<=N+5:=aj hN (aW N 5)
 refine HV.same ok (s1 g) h' λhy n f d=>?_
 have y:=yy ok (s1 g) hy
 exact(VY (Y b&&sa) oa).elim λh q=>by
  have s:=WE (n:=n) (f:=f) (V0 (Y b&&sa) A oa g hN) (B.aU<|aW N 3) q.2 ob (aj q.1<|s1 g) (s0 g) (d.le<|aj (dP (aj (dP (VW _) _)<|bA (iW _ 1 _)) 1) (aR _)) (aj (n6 hN)<|aW N 3)
  rw[show bU ag (Y b) b (hv (mf (Y b&&sa) a) n) (hv b)=bU ag (Y b) b (kL (Y b&&sa)<|hv a n) (hv b) from ay (λx=>bU ag (Y b) b x<|hv b)<|VZ _] at s
  show ao (N+6) 15 _ _ (.val<|ak (pr (.bi<|.bS sa sb) ag (Y b) b (kL (Y b&&sa)<|hv a n)<|hv b).e) [bk (pr (.bi<|.bS sa sb) ag (Y b) b (kL (Y b&&sa)<|hv a n)<|hv b).n,ot<|f++av (pr (.bi<|.bS sa sb) ag (Y b) b (kL (Y b&&sa)<|hv a n)<|hv b).o]
  rw[rJ]
  revert s
  generalize bU ag (Y b) b (kL (Y b&&sa)<|hv a n) (hv b)=q
  intro s
  exact HV.go (g:=25) y (ag3 (ya:=Y a) (yb:=Y b) hy (z5 oa (s0 g) rfl) (z5 ob (s0 g) rfl) hN s) h' (λk=>by kernel_rfl)
theorem Qq(o:aL ae h₀ a):∃h,h<=h₀+1/\aL ae h (fT a):=aO (λx:E=>∃h,h<=h₀+1/\aL ae h x) (λ_=>⟨h₀,aR _,o⟩) λ_=>⟨h₀+1,aF _,.un trivial o⟩
theorem Qr(a:E)(n:ai):hv (fT a) n=ij a (hv a n):=by
 unfold fT ij
 cases kQ a<;>rfl
theorem aeM(a:E):Y (fT a)=Y a:=aO (λx:E=>Y x=Y a) (λ_=>rfl) λ_=>rfl
theorem H5(a:E):tE (fT a)<=tE a+1:=aO (λx:E=>tE x<=tE a+1) (λ_=>aR _) λ_=>aF _
theorem Qt(A:HV N a)(o:aL ae h₀ a)(g:h₀<=9000)(hN:9<=N):HV (N+2) (fT a):=
 aO (HV<|N+2) (λ_=>A.aU<|aW N 2) λ_=>HV.plain (.inr<|.inr (.inr<|.inl rfl)) A o g hN
theorem UZ{q:C6}{la lb:az}{a' b':V}(h1:kQ a=la)(h2:kQ b=lb)(ea:a'=if la then ak a else .tuple [.str mu,.str tF,ak a])(eb:b'=if lb then ak b else .tuple [.str mu,.str tF,ak b])
  (s:ao (N+3) 14 [bk n,ot f] [.list [bO (.str et),a',b'],.list [.bool ag,.bool ag,.bool ag]] (.own<|.ah [bO (.str et),ak q.a,ak q.b]) [bk q.n,ot<|f++av q.o]):
  ao (N+4) 25 [bk n,ot f] [ak<|.bi .dY a b] (.val<|ak (.bi .dY q.a q.b)) [bk q.n,ot<|f++av q.o]:=by
 cases la with
 |true=>
  cases lb with
  |true=>
   cases ea
   cases eb
   exact ao.go [.aK 3 (.val<|.str (hd<|ak a)),.au 0 ae,.aK 0 (.val<|.str (hd<|ak b)),.au 0 ae,.call (.own<|.ah [bO (.str et),ak q.a,ak q.b]) [bk q.n,ot<|f++av q.o]] λk hk z=>an (i0 a []) (an ((il a []).trans (ay ab h1))<|an (i0 b []) (an ((il b []).trans (ay ab h2))<|an (s k hk) z))
  |false=>
   cases ea
   cases eb
   exact ao.go [.aK 3 (.val<|.str (hd<|ak a)),.au 0 ae,.aK 0 (.val<|.str (hd<|ak b)),.au 0 ag,.call (.own<|.ah [bO (.str et),ak q.a,ak q.b]) [bk q.n,ot<|f++av q.o]] λk hk z=>an (i0 a []) (an ((il a []).trans (ay ab h1))<|an (i0 b []) (an ((il b []).trans (ay ab h2))<|an (s k hk) z))
 |false=>
  cases lb with
  |true=>
   cases ea
   cases eb
   exact ao.go [.aK 3 (.val<|.str (hd<|ak a)),.au 0 ag,.aK 0 (.val<|.str (hd<|ak b)),.au 0 ae,.call (.own<|.ah [bO (.str et),ak q.a,ak q.b]) [bk q.n,ot<|f++av q.o]] λk hk z=>an (i0 a []) (an ((il a []).trans (ay ab h1))<|an (i0 b []) (an ((il b []).trans (ay ab h2))<|an (s k hk) z))
  |false=>
   cases ea
   cases eb
   exact ao.go [.aK 3 (.val<|.str (hd<|ak a)),.au 0 ag,.aK 0 (.val<|.str (hd<|ak b)),.au 0 ag,.call (.own<|.ah [bO (.str et),ak q.a,ak q.b]) [bk q.n,ot<|f++av q.o]] λk hk z=>an (i0 a []) (an ((il a []).trans (ay ab h1))<|an (i0 b []) (an ((il b []).trans (ay ab h2))<|an (s k hk) z))
theorem Qs(a:E):ak (fT a)=if kQ a then ak a else .tuple [.str mu,.str tF,ak a]:=apply_ite ak _ _ _
theorem HV.dY(A:HV N a)(B:HV N b)(oa:aL ae h₀ a)(ob:aL ae h₀ b)(g:h₀<=9000)(hN:9<=N):HV (N+5) (.bi .dY a b):=by
 have ok:aL ae (h₀+1) (.bi .dY a b):=.bi oa ob
 have h':9<=N+4:=aj hN (aW N 4)
 refine HV.same ok (s1 g) h' λhy n f d=>?_
 have y:=yy ok (s1 g) hy
 exact(Qq oa).elim λha qa=>(Qq ob).elim λhb qb=>by
  have s:=WH (n:=n) (f:=f) (Qt A oa g hN) (Qt B ob g hN) qa.2 qb.2 (aj qa.1<|s1 g) (aj qb.1<|s1 g) (d.le<|bG (aj (cQ (H5 a)<|H5 b)<|bA (ay Av<|iW (tE a) 1 (tE b)))) (aj (n6 hN)<|aW N 2)
  rw[show bU ag (Y<|fT b) (fT b) (hv (fT a) n) (hv<|fT b)=bU ag (Y b) (fT b) (ij a<|hv a n) (λk=>ij b<|hv b k) from by rw[Qr,aeM,show hv (fT b)=λk=>ij b (hv b k) from funext (Qr b)]] at s
  rw[show hv (.bi .dY a b) n=pr (.bi .dY) ag (Y b) (fT b) (ij a<|hv a n) (λk=>ij b<|hv b k) from a9 hy,rJ]
  revert s
  generalize bU ag (Y b) (fT b) (ij a<|hv a n) (λk=>ij b<|hv b k)=q
  intro s
  exact HV.go (g:=25) y (UZ rfl rfl (Qs a) (Qs b) s) h' (λk=>by kernel_rfl)
end
section
variable{N n m t j h₀:ai}{f:af V}{a b d e i x:E}{r r3:bP}{ds:af V}{v:V}
theorem Bd.keep{late:az}(q:Bd f n t)(l:tE i+1+j<=t):Bd (f++av (keep late<|hv i n).o) (keep late<|hv i n).n j:=q.wi (cg i n).keep l
theorem YZ(A:HV N i)(o:aL ae h₀ i)(q:Bd f n (tE i+1))(hN:9<=N):ao (N+1) 29 [bk n,ot f] [ak i,.bool ae] (.val<|ak (keep ag<|hv i n).e) [bk (keep ag<|hv i n).n,ot<|f++av (keep ag<|hv i n).o]:=
 ao.go [.au 0 ag,.call (.val<|ak (hv i n).e) [bk (hv i n).n,ot<|f++av (hv i n).o],.call (.val<|ak (keep ag<|hv i n).e) [bk (keep ag<|hv i n).n,ot<|f++av (keep ag<|hv i n).o]] λk hk z=>an (en i [bk n,ot f]) (an (A n f (q.le<|aR _) k hk)<|an (yJ (late:=ag) (f:=f) (w5 o<|aj (aR _) q.2) (q.wi (t':=1) (cg i n)<|aF _) (aF 1) k<|aj aa (h9 (j:=0) hN hk)) z)
theorem Y0(A:HV N i)(q:Bd f n (tE i)):ao (N+1) 29 [bk n,ot f] [ak i,.bool ag] (.val<|ak (hv i n).e) [bk (hv i n).n,ot<|f++av (hv i n).o]:=
 ao.go [.au 0 ag,.call (.val<|ak (hv i n).e) [bk (hv i n).n,ot<|f++av (hv i n).o]] λk hk z=>an (en i [bk n,ot f]) (an (A n f q k hk) z)
theorem KS(A:HV N i)(o:aL ae h₀ i)(q:Bd f n (tE i+1))(hN:9<=N):ao (N+2) 28 [bk n,ot f] [iR (ak i),.bool ae] (.val<|iR (ak (keep ag<|hv i n).e)) [bk (keep ag<|hv i n).n,ot<|f++av (keep ag<|hv i n).o]:=
 ao.go [.call (.val .none) [],.call (.val<|cy bz) [bk n,ot f],.call (.val<|ak (keep ag<|hv i n).e) [bk (keep ag<|hv i n).n,ot<|f++av (keep ag<|hv i n).o]] λk hk z=>have q9:=h9 hN hk;an (Fa (.la .cS (.var bz) i) (.list [ak<|.la .cS (.var bz) i]) k<|aj aa q9) (an (iJ (n:=n) (f:=f) (x:=bz) ae k<|aj aa q9)<|an (YZ A o q hN k hk) z)
theorem KU(A:HV N i)(o:aL ae h₀ i)(g:h₀<=10000)(q:Bd f n (tE i))(hN:9<=N):ao (N+2) 28 [bk n,ot f] [iR (ak i),.bool ag] (.val<|iR (ak (hv i n).e)) [bk (hv i n).n,ot<|f++av (hv i n).o]:=
 ao.go [.call (.val .none) [],.call (.val<|.bool (Y i)) [],.call (.val<|cy bz) [bk n,ot f],.call (.val<|ak (hv i n).e) [bk (hv i n).n,ot<|f++av (hv i n).o]] λk hk z=>have q9:=h9 hN hk;an (Fa (.la .cS (.var bz) i) (.list [ak<|.la .cS (.var bz) i]) k<|aj aa q9) (an (yy o g rfl k q9)<|an (iJ (n:=n) (f:=f) (x:=bz) (Y i) k<|aj aa q9) (an (Y0 A q k hk) z))
theorem Ps(o:aL ae h₀ e)(g:h₀<=10000)(hy:Y e=ag):ao 10 15 [bk n,ot f] [ak e] (.val<|ak e) [bk n,ot f]:=ao.go [.call (.val<|.bool ag) []] λk hk z=>an (yy o g hy k hk) z
theorem Ww{w:W}{K:H}{q:H}(hw:w=.d8\/w=.fW ae\/w=.fW ag)(y:ao 9 7 [] [ak b] (.val<|.bool ae) [])(T:ao (N+2) 28 [bk n,ot f] [iR (ak a),.bool ae] (.val<|iR (ak K.e)) [bk K.n,ot<|f++av K.o])(B:ao N 15 [bk K.n,ot<|f++av K.o] [ak b] (.val<|ak q.e) [bk q.n,ot<|(f++av K.o)++av q.o])(hN:9<=N):
  ao (N+3) 30 [bk n,ot f] [ak<|.bi w a b] (.val<|ak (.bi w K.e q.e)) [bk q.n,ot<|(f++av K.o)++av q.o]:=by
 rcases hw with rfl|rfl|rfl<;>
  exact ao.go [.call (.val<|.bool ae) [],.call (.val<|iR (ak K.e)) [bk K.n,ot<|f++av K.o],.call (.val<|ak q.e) [bk q.n,ot<|(f++av K.o)++av q.o]] λk hk z=>an (y k<|h9 hN hk) (an (T k hk)<|an (B k<|aj (aW N 2) hk) z)
theorem Wy{w:W}{K:H}(hw:w=.d8\/w=.fW ae\/w=.fW ag)(y:ao 9 7 [] [ak b] (.val<|.bool ag) [])(T:ao (N+2) 28 [bk n,ot f] [iR (ak a),.bool ag] (.val<|iR (ak K.e)) [bk K.n,ot<|f++av K.o])(B:ao 10 15 [bk K.n,ot<|f++av K.o] [ak b] (.val<|ak b) [bk K.n,ot<|f++av K.o])(hN:9<=N):
  ao (N+3) 30 [bk n,ot f] [ak<|.bi w a b] (.val<|ak (.bi w K.e b)) [bk K.n,ot<|f++av K.o]:=by
 rcases hw with rfl|rfl|rfl<;>
  exact ao.go [.call (.val<|.bool ag) [],.call (.val<|iR (ak K.e)) [bk K.n,ot<|f++av K.o],.call (.val<|ak b) [bk K.n,ot<|f++av K.o]] λk hk z=>an (y k<|h9 hN hk) (an (T k hk)<|an (B k<|aj (aj (bG hN)<|aR _) hk) z)
theorem Wx{w:W}{r:V}{n':ai}{f':af V}(hw:w=.d8\/w=.fW ae\/w=.fW ag)(y:ao 9 7 [] [ak<|.bi w a b] (.val<|.bool ae) [])(h:ao N 30 [bk n,ot f] [ak<|.bi w a b] (.val r) [bk n',ot f'])(hN:9<=N):ao (N+1) 15 [bk n,ot f] [ak<|.bi w a b] (.val r) [bk n',ot f']:=by
 rcases hw with rfl|rfl|rfl<;>exact HV.go (g:=30) y h hN λk=>by kernel_rfl
theorem HV.LG{w:W}(hw:w=.d8\/w=.fW ae\/w=.fW ag)(A:HV N a)(B:HV N b)(oa:aL ae h₀ a)(ob:aL ae h₀ b)(g:h₀<=9000)(hN:9<=N):HV (N+4) (.bi w a b):=by
 have ok:aL ae (h₀+1) (.bi w a b):=.bi oa ob
 have h':9<=N+3:=aj hN (aW N 3)
 refine HV.same ok (s1 g) h' λhy n f q=>?_
 have hq:hv (.bi w a b) n=pr (.bi w) ag (Y b) b (hv a n) (hv b):=by rcases hw with rfl|rfl|rfl<;>rfl
 rw[hq]
 refine Wx hw (yy ok (s1 g) hy) ?_ h'
 cases hb:Y b with
 |true=>
  have q1:Bd f n (tE a+1+tE b):=q.le (aj (bA<|iW _ 1 _)<|aW _ 2)
  show ao (N+3) 30 _ _ _ [_,ot<|f++av ((Mine.L.keep ag<|hv a n).o++(hv b (Mine.L.keep ag<|hv a n).n).o)]
  rw[uG]
  exact Ww hw (yy ob (s0 g) hb) (KS A oa (q1.le<|aW _ _) hN) (B _ _ (q1.keep<|aF _)) hN
 |false=>exact Wy hw (yy ob (s0 g) hb) (KU A oa (s0 g) q.a2 hN) (Ps ob (s0 g) hb) hN
theorem HT(h:f.length+ds.length<=100000):iQ .kU (.ref 1) [.val<|.tuple ds] [r,.ah f]=ab (.val .none,[r,.ah<|f++ds]):=ay (gv _) (show mN (.ref 1) ds [r,.ah f]=ab [r,.ah<|f++ds] from a9 h)
theorem app_1(v:V)(h:f.length+1<=100000):iQ .append (.ref 1) [.val v] [r,.ah f]=ab (.val .none,[r,.ah<|f++[v]]):=ay (gv _) (show mN (.ref 1) [v] [r,.ah f]=ab [r,.ah<|f++[v]] from a9 h)
theorem z4(v:V)(h:f.length+1<=100000):iQ .append (.ref 1) [.val v] [r,.ah f,r3]=ab (.val .none,[r,.ah (f++[v]),r3]):=ay (gv _) (show mN (.ref 1) [v] [r,.ah f,r3]=ab [r,.ah (f++[v]),r3] from a9 h)
theorem Bd.nil(q:Bd f n t):Bd [] n t:=⟨aj (dP (bQ _) t) q.1,q.2⟩
theorem Bd.len{o:af S}(q:Bd f n t)(h:o.length<=t):f.length+(av o).length<=60000:=aj (bK ((qJ o).symm▸h) _) q.1
theorem Bd.y8{o:af S}(q:Bd f n t)(h:o.length<=t):(f++av o).length+1<=100000:=aj (bG<|aj (bA eX) (q.len h)) aa
theorem Bd.rU{o:af S}(q:Bd f n t)(h:o.length<=t):(av o).length<=100000:=aj (bY _ _) (aj (q.len h) aa)
theorem QU{t:aq}(A:HV N e)(q:Bd [] n (tE e+1))(hN:9<=N):ao (N+1) 22 [bk n] [cy t,ak e,.str pY] (.val<|.tuple (av<|(hv e n).o++[cB t<|.un .fF (hv e n).e])) [bk (hv e n).n]:=by
 have l:=aj (cg e n).1 (aR _)
 have l':((hv e n).o++[cB t<|.un .fF (hv e n).e]).length<=tE e+1:=i6 (cg e n).1
 exact ao.go [.call (.val<|ak (hv e n).e) [bk (hv e n).n,ot<|[]++av (hv e n).o],.call (.val .none) [ot<|([]++av (hv e n).o)++[ei t<|ak (.un .fF (hv e n).e)]],.bi 0<|.val (.tuple<|av ((hv e n).o++[cB t<|.un .fF (hv e n).e]))] (λk hk z=>an (A n [] (q.le<|aR _) k hk)<|an (nT (t:=t) (v:=ak<|.un .fF (hv e n).e) (f:=[]++av (hv e n).o) (q.y8 l) k<|aj aa (h9 (j:=0) hN hk))
   (an (show gY .tuple (.list<|([]++av (hv e n).o)++[ei t<|ak (.un .fF (hv e n).e)])=_ from(ay (λl=>gY .tuple<|.list l) (iD [] (hv e n).o<|cB t (.un .fF (hv e n).e)).symm).trans (pK<|q.rU l')) z))
theorem zR{t:aq}(A:HV N e)(q:Bd [] n (tE e+1))(hN:9<=N):ao (N+1) 22 [bk n] [cy t,ak e,.str qc] (.val<|.tuple (av<|(hv e n).o++[cB t (hv e n).e])) [bk (hv e n).n]:=by
 have l:=aj (cg e n).1 (aR _)
 have l':((hv e n).o++[cB t (hv e n).e]).length<=tE e+1:=i6 (cg e n).1
 exact ao.go [.call (.val<|ak (hv e n).e) [bk (hv e n).n,ot<|[]++av (hv e n).o],.call (.val .none) [ot<|([]++av (hv e n).o)++[ei t<|ak (hv e n).e]],.bi 0<|.val (.tuple<|av ((hv e n).o++[cB t (hv e n).e]))] (λk hk z=>an (A n [] (q.le<|aR _) k hk)<|an (nT (t:=t) (v:=ak (hv e n).e) (f:=[]++av (hv e n).o) (q.y8 l) k<|aj aa (h9 (j:=0) hN hk))
   (an (show gY .tuple (.list<|([]++av (hv e n).o)++[ei t<|ak (hv e n).e])=_ from(ay (λl=>gY .tuple<|.list l) (iD [] (hv e n).o<|cB t (hv e n).e).symm).trans (pK<|q.rU l')) z))
end
section
variable{N n m n1 n2 n3 t j h₀:ai}{f:af V}{a b d e i x:E}{T1 T2 o1:af S}{e1 c:E}
structure Br(f:af V)(n:ai)(T1:af S):Prop where
 nt:n+1<=12000
 l1:f.length+(av T1).length<=60000
theorem Br.ext(q:Br f n T1):f.length+(av T1).length<=100000:=aj q.l1 aa
theorem Br.dq(q:Br f n T1):(f++av T1).length+1<=100000:=aj (bG<|aj (bA eX) q.l1) aa
theorem rV(hN:9<=N){k:ai}(hk:N+1<=k):1<=k:=aj aa (h9 hN hk)
theorem z6{y:az}(o:aL ae h₀ e)(g:h₀<=10000)(h:Y e=y):ao 9 8 [] [.tuple [ak e]] (.val<|.bool y) []:=h▸(ahg<|jL o g).aU aa
theorem afh(q:Br f n T1)(hN:9<=N)(y:ao 9 8 [] [.tuple [ak b]] (.val<|.bool ae) [])(b1:ao (N+1) 22 [bk<|n+1] [cy (aG<|n+1),ak a,.str pY] (.val<|.tuple (av T1)) [bk n1])(b2:ao (N+1) 22 [bk n1] [cy (aG<|n+1),ak b,.str pY] (.val<|.tuple (av T2)) [bk n2]):ao (N+2) 23 [bk n,ot f] [ak<|.cN ae a b] (.val<|cy (aG<|n+1)) [bk n2,ot<|(f++av T1)++[aM<|eA (.un .nt<|.var (aG<|n+1)) T2]]:=
 ao.go [.call (.val<|.bool ae) [],.call (.val<|cy (aG<|n+1)) [bk<|n+1],.call (.val<|.tuple (av T1)) [bk n1],.bw 0 (.val .none) [bk n1,ot<|f++av T1],.call (.val<|.tuple (av T2)) [bk n2],.bw 0 (.val .none) [bk n2,ot<|(f++av T1)++[aM<|eA (.un .nt<|.var (aG<|n+1)) T2]]] λk hk z=>an (y k<|h9 hN hk) (an (nU q.nt k<|rV hN hk)<|an (b1 k hk) (an (HT (r:=bk n1) q.ext)<|an (b2 k hk) (an (app_1 (r:=bk n2) (aM<|eA (.un .nt<|.var (aG<|n+1)) T2) q.dq) z)))
theorem afj(q:Br f n T1)(hN:9<=N)(y:ao 9 8 [] [.tuple [ak b]] (.val<|.bool ae) [])(b1:ao (N+1) 22 [bk<|n+1] [cy (aG<|n+1),ak a,.str pY] (.val<|.tuple (av T1)) [bk n1])(b2:ao (N+1) 22 [bk n1] [cy (aG<|n+1),ak b,.str pY] (.val<|.tuple (av T2)) [bk n2]):ao (N+2) 23 [bk n,ot f] [ak<|.cN ag a b] (.val<|cy (aG<|n+1)) [bk n2,ot<|(f++av T1)++[aM<|eA (.var<|aG (n+1)) T2]]:=
 ao.go [.call (.val<|.bool ae) [],.call (.val<|cy (aG<|n+1)) [bk<|n+1],.call (.val<|.tuple (av T1)) [bk n1],.bw 0 (.val .none) [bk n1,ot<|f++av T1],.call (.val<|.tuple (av T2)) [bk n2],.bw 0 (.val .none) [bk n2,ot<|(f++av T1)++[aM<|eA (.var<|aG (n+1)) T2]]] λk hk z=>an (y k<|h9 hN hk) (an (nU q.nt k<|rV hN hk)<|an (b1 k hk) (an (HT (r:=bk n1) q.ext)<|an (b2 k hk) (an (app_1 (r:=bk n2) (aM<|eA (.var<|aG (n+1)) T2) q.dq) z)))
theorem afi(q:Br f n T1)(hN:9<=N)(y:ao 9 8 [] [.tuple [.none,ak b]] (.val<|.bool ae) [])(b1:ao (N+1) 22 [bk<|n+1] [cy (aG<|n+1),ak a,.str qc] (.val<|.tuple (av T1)) [bk n1])(b2:ao (N+1) 22 [bk n1] [cy (aG<|n+1),ak b,.str qc] (.val<|.tuple (av T2)) [bk n2]):ao (N+2) 23 [bk n,ot f] [ak<|.c7 a b] (.val<|cy (aG<|n+1)) [bk n2,ot<|(f++av T1)++[aM<|eA (.un .nt<|.var (aG<|n+1)) T2]]:=
 ao.go [.call (.val<|.bool ae) [],.call (.val<|cy (aG<|n+1)) [bk<|n+1],.call (.val<|.tuple (av T1)) [bk n1],.bw 0 (.val .none) [bk n1,ot<|f++av T1],.call (.val<|.tuple (av T2)) [bk n2],.bw 0 (.val .none) [bk n2,ot<|(f++av T1)++[aM<|eA (.un .nt<|.var (aG<|n+1)) T2]]] λk hk z=>an (y k<|h9 hN hk) (an (nU q.nt k<|rV hN hk)<|an (b1 k hk) (an (HT (r:=bk n1) q.ext)<|an (b2 k hk) (an (app_1 (r:=bk n2) (aM<|eA (.un .nt<|.var (aG<|n+1)) T2) q.dq) z)))
theorem lv(q:Bd f n (tE a+tE b+2)):Bd [] (n+1) (tE a+1):=(q.up (j:=tE a+1)<|bG (bG<|aW _ _)).nil
theorem lw(q:Bd f n (tE a+tE b+2)):Bd [] (hv a<|n+1).n (tE b+1):=((q.up (j:=tE a+(tE b+1))<|aF _).wi (cg a<|n+1)<|aF _).nil
theorem lb{x1:E}(q:Bd f n (tE a+tE b+2)):Br f n ((hv a<|n+1).o++[cB (aG<|n+1) x1]):=⟨q.n1 (bG<|bQ _),q.len<|aj (i6 (cg a<|n+1).1) (aj (bG<|aW _ (tE b))<|aR _)⟩
theorem zQ{x1 c x2:E}{h:H}{o1:af S}:f++av (d7 n o1 x1 c h x2).o=(f++av (o1++[cB (aG<|n+1) x1]))++[aM<|eA c (h.o++[cB (aG<|n+1) x2])]:=iD f _ _
theorem HV.cN{o:az}(A:HV N a)(B:HV N b)(oa:aL ae h₀ a)(ob:aL ae h₀ b)(g:h₀<=9000)(hN:9<=N):HV (N+3) (.cN o a b):=by
 have ok:aL ae (h₀+1) (.cN o a b):=.cN oa ob
 have h':9<=N+2:=aj hN (aW N 2)
 refine HV.same ok (s1 g) h' λhy n f q=>?_
 have y:=yy ok (s1 g) hy
 cases hb:Y b with
 |true=>
  rw[show hv (.cN o a b) n=d7 n (hv a<|n+1).o (.un .fF (hv a<|n+1).e) (if o then .un .nt (.var<|aG (n+1)) else .var (aG<|n+1)) (hv b (hv a<|n+1).n) (.un .fF (hv b (hv a<|n+1).n).e) from a9 hb,zQ]
  have b1:=QU (t:=aG<|n+1) A (lv (b:=b) q) hN
  have b2:=QU (t:=aG<|n+1) B (lw q) hN
  cases o with
  |true=>exact HV.go (g:=23) y (afh (lb q) hN (z6 ob (s0 g) hb) b1 b2) h' λk=>by kernel_rfl
  |false=>exact HV.go (g:=23) y (afj (lb q) hN (z6 ob (s0 g) hb) b1 b2) h' λk=>by kernel_rfl
 |false=>
  rw[show hv (.cN o a b) n=⟨.cN o (hv a n).e b,(hv a n).n,(hv a n).o⟩ from br<|cz.mp hb]
  have s:=A n f q.a2
  cases o<;>exact HV.go (g:=23) y (ao.s1<|ao.go [.call (.val<|.bool ag) [],.call (.val<|ak (hv a n).e) [bk (hv a n).n,ot<|f++av (hv a n).o]] λk hk z=>an (z6 ob (s0 g) hb k<|h9 (j:=0) hN hk) (an (s k hk) z)) h' λk=>by kernel_rfl
theorem HV.c7(A:HV N a)(B:HV N b)(oa:aL ae h₀ a)(ob:aL ae h₀ b)(g:h₀<=9000)(hN:9<=N):HV (N+3) (.c7 a b):=by
 have ok:aL ae (h₀+1) (.c7 a b):=.c7 oa ob
 have h':9<=N+2:=aj hN (aW N 2)
 refine HV.same ok (s1 g) h' λhy n f q=>?_
 have y:=yy ok (s1 g) hy
 cases hb:Y b with
 |true=>
  rw[show hv (.c7 a b) n=d7 n (hv a<|n+1).o (hv a<|n+1).e (.un .nt<|.var (aG<|n+1)) (hv b (hv a<|n+1).n) (hv b (hv a<|n+1).n).e from a9 hb,zQ]
  exact HV.go (g:=23) y (afi (lb q) hN (z5 ob (s0 g) hb) (zR (t:=aG<|n+1) A (lv (b:=b) q) hN)<|zR (t:=aG<|n+1) B (lw q) hN) h' λk=>by kernel_rfl
 |false=>
  rw[show hv (.c7 a b) n=⟨.c7 (hv a n).e b,(hv a n).n,(hv a n).o⟩ from br<|cz.mp hb]
  have s:=A n f q.a2
  exact HV.go (g:=23) y (ao.s1<|ao.go [.call (.val<|.bool ag) [],.call (.val<|ak (hv a n).e) [bk (hv a n).n,ot<|f++av (hv a n).o]] λk hk z=>an (z5 ob (s0 g) hb k<|h9 (j:=0) hN hk) (an (s k hk) z)) h' λk=>by kernel_rfl
theorem HV.c6(A:HV N a)(B:HV N b)(D:HV N d)(oa:aL ae h₀ a)(ob:aL ae h₀ b)(od:aL ae h₀ d)(g:h₀<=9000)(hN:9<=N):HV (N+3) (.c6 a b d):=by
 have ok:aL ae (h₀+1) (.c6 a b d):=.c6 oa ob od
 have h':9<=N+2:=aj hN (aW N 2)
 refine HV.same ok (s1 g) h' λhy n f q=>?_
 have y:=yy ok (s1 g) hy
 have y2:ao 9 8 [] [.tuple [ak b,ak d]] (.val<|.bool (Y b||Y d)) []:=(Iq (jL ob<|s0 g)<|jL od (s0 g)).aU aa
 cases hb:(Y b||Y d) with
 |true=>
  rw[hb] at y2
  rw[show hv (.c6 a b d) n=Ck n (hv a<|n+1) (hv b (hv d (hv a<|n+1).n).n) (hv d (hv a<|n+1).n) from a9 hb]
  have qa:Bd f (n+1) (tE a+(tE d+(tE b+1))):=q.up (bA<|ay (·+2) ((fg (tE a) (tE d)<|tE b).symm))
  have qd:=qa.wi (cg a<|n+1) (aF _)
  have qb:=qd.nil.wi (cg d (hv a<|n+1).n) (aF _)
  have s:=A (n+1) f (qa.le<|aW _ _)
  have b1:=zR (t:=aG<|n+1) D (qd.nil.le<|bK (bG<|bQ _) _) hN
  have b2:=zR (t:=aG<|n+1) B qb.nil hN
  show ao (N+3) 15 _ _ _ [_,ot<|f++av ((hv a<|n+1).o++[S.b9 (hv a<|n+1).e ((hv b (hv d (hv a<|n+1).n).n).o++[cB (aG<|n+1) (hv b (hv d (hv a<|n+1).n).n).e]) ((hv d (hv a<|n+1).n).o++[cB (aG<|n+1) (hv d (hv a<|n+1).n).e]) ae])]
  rw[iD]
  have l1:=qd.f1 (aj (bG<|bQ _)<|bY _ _)
  have nt:=q.n1 (bG<|bQ _)
  revert s b1 b2 l1
  show _->_->_->_->ao (N+3) 15 _ _ _ [bk (hv b (hv d (hv a<|n+1).n).n).n,_]
  generalize (hv b (hv d (hv a<|n+1).n).n).o++[cB (aG<|n+1) (hv b (hv d (hv a<|n+1).n).n).e]=T2
  generalize (hv b (hv d (hv a<|n+1).n).n).n=n3
  generalize (hv d (hv a<|n+1).n).o++[cB (aG<|n+1) (hv d (hv a<|n+1).n).e]=T1
  generalize (hv d (hv a<|n+1).n).n=n2
  generalize hv a (n+1)=x
  intro s b1 b2 l1
  exact HV.go (g:=23) y (ao.go [.call (.val<|.bool ae) [],.call (.val<|cy (aG<|n+1)) [bk<|n+1],.au 2 ag,.call (.val<|ak x.e) [bk x.n,ot<|f++av x.o],.call (.val<|.tuple (av T1)) [bk n2],.call (.val<|.tuple (av T2)) [bk n3],.bw 0 (.val .none) [bk n3,ot<|(f++av x.o)++[aM<|.b9 x.e T2 T1 ae]]] λk hk z=>an (y2 k<|h9 hN hk)<|an (nU nt k<|rV hN hk) (an (en b [])<|an (s k<|aj (aR N) hk) (an (b1 k hk)<|an (b2 k hk) (an (app_1 (r:=bk n3) (aM<|.b9 x.e T2 T1 ae) l1) z)))) h' λk=>by kernel_rfl
 |false=>
  rw[hb] at y2
  rw[show hv (.c6 a b d) n=⟨.c6 (hv a n).e b d,(hv a n).n,(hv a n).o⟩ from br<|cz.mp hb]
  have s:=A n f (q.le<|aj (aW _ (tE d)) (aj (aW _ (tE b))<|aW _ 2))
  exact HV.go (g:=23) y (ao.s1<|ao.go [.call (.val<|.bool ag) [],.call (.val<|ak (hv a n).e) [bk (hv a n).n,ot<|f++av (hv a n).o]] λk hk z=>an (y2 k<|h9 (j:=0) hN hk) (an (s k hk) z)) h' λk=>by kernel_rfl
theorem M4{e:E}(hy:Y e=ae)(f6:lN e=ag)(rs:Rs):cv .dt (.val<|.str (hd<|ak e)) (.val<|.tuple [.str pT,.str Fh,.str kc,.str BG,.str Fi,.str Ft]) rs=ab ag:=by
 cases e with
 |un u e=>cases u<;>kernel_rfl|bi w a b=>cases w<;>kernel_rfl|la l a b=>
  cases l with
  |bq o=>kernel_rfl|cS=>cases f6
 |cN q a b=>cases q<;>kernel_rfl|var x=>cases hy|_=>kernel_rfl
theorem HV.bW(A:HV N a)(B:HV N b)(oa:aL ae h₀ a)(ob:aL ae h₀ b)(f6:(Y a&&lN a)=ag)(g:h₀<=9000)(hN:9<=N):HV (N+3) (.bW a b):=by
 have ok:aL ae (h₀+1) (.bW a b):=.bW oa ob λ_=>f6
 have h':9<=N+2:=aj hN (aW N 2)
 refine HV.same ok (s1 g) h' λhy n f q=>?_
 have y:=yy ok (s1 g) hy
 cases hb:Y b with
 |true=>
  have y2:=z6 ob (s0 g) hb
  rw[show hv (.bW a b) n=d7 n (hv a<|n+1).o (.bW (hv a<|n+1).e<|.lit .none) (gq<|aG (n+1)) (hv b (hv a<|n+1).n) (hv b (hv a<|n+1).n).e from a9 hb,zQ,iD]
  have qa:Bd f (n+1) (tE a+(tE b+1)):=q.up (aF _)
  have qk:=qa.wi (cg a<|n+1) (aF _)
  have s:=A (n+1) f (qa.le<|aW _ _)
  have b2:=zR (t:=aG<|n+1) B (lw q) hN
  have nt:=q.n1 (bG<|bQ _)
  have l1:=qk.f1 (bG<|bQ _)
  have l2:((f++av (hv a<|n+1).o)++[ei (aG<|n+1)<|ak (.bW (hv a<|n+1).e<|.lit .none)]).length+1<=100000:=aj (bG<|aj (bA eX) (aj (bK (bG<|bQ _) _) qk.1)) aa
  revert s b2 l1 l2
  show _->_->_->_->ao (N+3) 15 _ _ _ [bk (hv b (hv a<|n+1).n).n,_]
  generalize (hv b (hv a<|n+1).n).o++[cB (aG<|n+1) (hv b (hv a<|n+1).n).e]=T2
  generalize (hv b (hv a<|n+1).n).n=n2
  generalize hv a (n+1)=x
  intro s b2 l1 l2
  cases ha:Y a with
  |true=>
   have nd:lN a=ag:=(ay (·&&lN a) ha).symm.trans f6
   exact HV.go (g:=23) y (ao.go [.call (.val<|.bool ae) [],.aK 0 (.val<|.str (hd<|ak a)),.au 0 ag,.call (.val<|.bool ae) [],.call (.val<|cy (aG<|n+1)) [bk<|n+1],.call (.val<|ak x.e) [bk x.n,ot<|f++av x.o],.call (.val .none) [ot<|(f++av x.o)++[ei (aG<|n+1)<|ak (.bW x.e<|.lit .none)]],.call (.val<|.tuple (av T2)) [bk n2],.bw 0 (.val .none) [bk n2,ot<|((f++av x.o)++[ei (aG<|n+1)<|ak (.bW x.e<|.lit .none)])++[aM<|eA (gq<|aG (n+1)) T2]]] λk hk z=>an (yy oa (s0 g) ha k<|h9 hN hk)<|an (i0 a []) (an (M4 ha nd [])<|an (y2 k<|h9 hN hk) (an (nU nt k<|rV hN hk)<|an (s k<|aj (aR N) hk) (an (nT (t:=aG<|n+1) (v:=ak<|.bW x.e (.lit .none)) l1 k<|rV hN hk)<|an (b2 k hk) (an (app_1 (r:=bk n2) (aM<|eA (gq<|aG (n+1)) T2) l2) z))))) h' λk=>by kernel_rfl
  |false=>
   exact HV.go (g:=23) y (ao.go [.call (.val<|.bool ag) [],.call (.val<|.bool ae) [],.call (.val<|cy (aG<|n+1)) [bk<|n+1],.call (.val<|ak x.e) [bk x.n,ot<|f++av x.o],.call (.val .none) [ot<|(f++av x.o)++[ei (aG<|n+1)<|ak (.bW x.e<|.lit .none)]],.call (.val<|.tuple (av T2)) [bk n2],.bw 0 (.val .none) [bk n2,ot<|((f++av x.o)++[ei (aG<|n+1)<|ak (.bW x.e<|.lit .none)])++[aM<|eA (gq<|aG (n+1)) T2]]] λk hk z=>an (yy oa (s0 g) ha k<|h9 hN hk)<|an (y2 k<|h9 hN hk) (an (nU nt k<|rV hN hk)<|an (s k<|aj (aR N) hk) (an (nT (t:=aG<|n+1) (v:=ak<|.bW x.e (.lit .none)) l1 k<|rV hN hk)<|an (b2 k hk) (an (app_1 (r:=bk n2) (aM<|eA (gq<|aG (n+1)) T2) l2) z)))) h' λk=>by kernel_rfl
 |false=>
  have ha:Y a=ae:=Zu (x:=Y a) (y:=Y b) hy hb
  have nd:lN a=ag:=(ay (·&&lN a) ha).symm.trans f6
  rw[show hv (.bW a b) n=⟨.bW (hv a n).e b,(hv a n).n,(hv a n).o⟩ from br<|cz.mp hb]
  have s:=A n f q.a2
  exact HV.go (g:=23) y (ao.go [.call (.val<|.bool ae) [],.aK 0 (.val<|.str (hd<|ak a)),.au 0 ag,.call (.val<|.bool ag) [],.call (.val<|ak (hv a n).e) [bk (hv a n).n,ot<|f++av (hv a n).o]] λk hk z=>an (yy oa (s0 g) ha k<|h9 hN hk)<|an (i0 a []) (an (M4 ha nd [])<|an (z6 ob (s0 g) hb k<|h9 hN hk) (an (s k<|aj (aR N) hk) z))) h' λk=>by kernel_rfl
theorem ade{p:aq}{x:H}(hN:9<=N)(nt:n+1<=12000)(l1:f.length+1<=100000)(l2:(f++[ei (aG<|n+1)<|ak (.bW (.var p)<|.lit .none)]).length+1<=100000)(l3:([]++av x.o).length+1<=100000)(l4:(av<|x.o++[cB (aG<|n+1)<|.un (.aN p) x.e]).length<=100000)(s:ao N 15 [bk (n+1),ot []] [ak e] (.val<|ak x.e) [bk x.n,ot<|[]++av x.o]):
  ao (N+1) 31 [bk n,ot f] [ak<|.dz p e] (.val<|cy (aG<|n+1)) [bk x.n,ot<|(f++[ei (aG<|n+1)<|ak (.bW (.var p)<|.lit .none)])++[aM<|eA (gq<|aG (n+1)) (x.o++[cB (aG<|n+1)<|.un (.aN p) x.e])]]:=
 have lo:∀{k},N<=k->1<=k:=λhk=>aj aa (h9 (j:=0) hN hk)
 have up:∀{k},N<=k->N<=k:=id
 ao.go [.call (.val<|cy (aG<|n+1)) [bk<|n+1],.call (.val<|cy p) [bk (n+1),ot f],.call (.val .none) [ot<|f++[ei (aG<|n+1)<|ak (.bW (.var p)<|.lit .none)]],.call (.val<|ak x.e) [bk x.n,ot<|[]++av x.o],.call (.val .none) [ot<|([]++av x.o)++[ei (aG<|n+1)<|ak (.un (.aN p) x.e)]],.bi 0 (.val<|.tuple (av<|x.o++[cB (aG<|n+1)<|.un (.aN p) x.e])),.bw 0 (.val .none) [bk x.n,ot ((f++[ei (aG<|n+1)<|ak (.bW (.var p)<|.lit .none)])++[(aM<|eA (gq<|aG (n+1)) (x.o++[cB (aG<|n+1)<|.un (.aN p) x.e]))]),ot<|([]++av x.o)++[ei (aG<|n+1)<|ak (.un (.aN p) x.e)]]] λk hk z=>an (nU nt k<|lo hk) (an (iJ (n:=n+1) (f:=f) (x:=p) ae k<|lo hk)<|an (nT (t:=aG<|n+1) (v:=ak<|.bW (.var p) (.lit .none)) (f:=f) l1 k<|lo hk) (an (s k<|up hk)<|an (nT (t:=aG<|n+1) (v:=ak<|.un (.aN p) x.e) (f:=[]++av x.o) l3 k<|lo hk) (an ((ay (λl=>gY .tuple<|.list l) (iD [] x.o<|cB (aG<|n+1) (.un (.aN p) x.e)).symm).trans (pK l4))<|an (z4 (r:=bk x.n) (r3:=ot<|([]++av x.o)++[ei (aG<|n+1)<|ak (.un (.aN p) x.e)]) (aM<|eA (gq<|aG (n+1)) (x.o++[cB (aG<|n+1)<|.un (.aN p) x.e])) (f:=(f++[ei (aG<|n+1)<|ak (.bW (.var p)<|.lit .none)])) l2) z)))
theorem adf{x K:H}(hN:9<=N)(nt:n+1<=12000)(l1:(f++av K.o).length+1<=100000)(l2:((f++av K.o)++[ei (aG<|n+1)<|ak (.bW (.la .cS (.var bz) K.e)<|.lit .none)]).length+1<=100000)(l3:([]++av x.o).length+1<=100000)(l4:(av<|x.o++[cB (aG<|n+1)<|.bi .d8 K.e x.e]).length<=100000)
  (T:ao (N+2) 28 [bk (n+1),ot f] [iR (ak i),.bool ae] (.val<|iR (ak K.e)) [bk K.n,ot<|f++av K.o])(s:ao N 15 [bk K.n,ot []] [ak e] (.val<|ak x.e) [bk x.n,ot<|[]++av x.o]):
  ao (N+3) 31 [bk n,ot f] [ak<|.c8 i e] (.val<|cy (aG<|n+1)) [bk x.n,ot<|((f++av K.o)++[ei (aG<|n+1)<|ak (.bW (.la .cS (.var bz) K.e)<|.lit .none)])++[aM<|eA (gq<|aG (n+1)) (x.o++[cB (aG<|n+1)<|.bi .d8 K.e x.e])]]:=
 have lo:∀{k},N+2<=k->1<=k:=λhk=>aj aa (h9 hN hk)
 have up:∀{k},N+2<=k->N<=k:=aj (aW N 2)
 ao.go [.call (.val<|cy (aG<|n+1)) [bk<|n+1],.call (.val<|iR (ak K.e)) [bk K.n,ot<|f++av K.o],.call (.val .none) [ot<|(f++av K.o)++[ei (aG<|n+1)<|ak (.bW (.la .cS (.var bz) K.e)<|.lit .none)]],.call (.val<|ak x.e) [bk x.n,ot<|[]++av x.o],.call (.val .none) [ot<|([]++av x.o)++[ei (aG<|n+1)<|ak (.bi .d8 K.e x.e)]],.bi 0 (.val<|.tuple (av<|x.o++[cB (aG<|n+1)<|.bi .d8 K.e x.e])),.bw 0 (.val .none) [bk x.n,ot (((f++av K.o)++[ei (aG<|n+1)<|ak (.bW (.la .cS (.var bz) K.e)<|.lit .none)])++[(aM<|eA (gq<|aG (n+1)) (x.o++[cB (aG<|n+1)<|.bi .d8 K.e x.e]))]),ot<|([]++av x.o)++[ei (aG<|n+1)<|ak (.bi .d8 K.e x.e)]]] λk hk z=>an (nU nt k<|lo hk) (an (T k hk)<|an (nT (t:=aG<|n+1) (v:=ak<|.bW (.la .cS (.var bz) K.e) (.lit .none)) (f:=(f++av K.o)) l1 k<|lo hk) (an (s k<|up hk)<|an (nT (t:=aG<|n+1) (v:=ak<|.bi .d8 K.e x.e) (f:=[]++av x.o) l3 k<|lo hk) (an ((ay (λl=>gY .tuple<|.list l) (iD [] x.o<|cB (aG<|n+1) (.bi .d8 K.e x.e)).symm).trans (pK l4))<|an (z4 (r:=bk x.n) (r3:=ot<|([]++av x.o)++[ei (aG<|n+1)<|ak (.bi .d8 K.e x.e)]) (aM<|eA (gq<|aG (n+1)) (x.o++[cB (aG<|n+1)<|.bi .d8 K.e x.e])) (f:=((f++av K.o)++[ei (aG<|n+1)<|ak (.bW (.la .cS (.var bz) K.e)<|.lit .none)])) l2) z)))
theorem Gu{v:V}(h:f.length+2<=100000):(f++[v]).length+1<=100000:=aj (bA<|ay Av eX) h
theorem HV.dz{p:aq}(hx:Nm ae p)(A:HV N e)(oe:aL ae h₀ e)(g:h₀<=9000)(hN:9<=N):HV (N+3) (.dz p e):=by
 have ok:aL ae (h₀+1) (.dz p e):=.dz hx oe
 have h':9<=N+2:=aj hN (aW N 2)
 refine HV.same ok (s1 g) h' λhy n f q=>?_
 have y:=yy ok (s1 g) hy
 have hb:Y e=ae:=hy
 rw[show hv (.dz p e) n=d7 n [] (.bW (.var p)<|.lit .none) (gq<|aG (n+1)) (hv e<|n+1) (.un (.aN p) (hv e<|n+1).e) from a9 hb,zQ]
 have qa:Bd [] (n+1) (tE e+1):=(q.up<|aF _).nil
 have s:=A (n+1) [] (qa.le<|aR _)
 have l:=(cg e<|n+1).1
 have F:=ade (p:=p) (f:=f) hN (q.n1<|bG (bQ _)) (q.f1<|bG (bQ _)) (Gu<|aj (aj (bK (bY 2<|tE e) _) q.1) aa) (qa.y8<|aj l (aR _)) (qa.rU<|i6 l) s
 exact HV.go (g:=30) y (ao.go [.call (.val<|.bool ae) [],.call (.val<|cy (aG<|n+1)) [bk (hv e<|n+1).n,ot<|(f++[ei (aG<|n+1)<|ak (.bW (.var p)<|.lit .none)])++[aM<|eA (gq<|aG (n+1)) ((hv e<|n+1).o++[cB (aG<|n+1)<|.un (.aN p) (hv e<|n+1).e])]]] λk hk z=>an (yy oe (s0 g) hb k<|h9 hN hk)<|an (F k hk) z) h' λk=>by kernel_rfl
theorem HV.c8(I:HV N i)(A:HV N e)(oi:aL ae h₀ i)(oe:aL ae h₀ e)(g:h₀<=9000)(hN:9<=N):HV (N+5) (.c8 i e):=by
 have ok:aL ae (h₀+1) (.c8 i e):=.c8 oi oe
 have h':9<=N+4:=aj hN (aW N 4)
 refine HV.same ok (s1 g) h' λhy n f q=>?_
 have y:=yy ok (s1 g) hy
 cases hb:Y e with
 |true=>
  rw[show hv (.c8 i e) n=d7 n (keep ag<|hv i (n+1)).o (.bW (.la .cS (.var bz) (keep ag<|hv i (n+1)).e)<|.lit .none) (gq<|aG (n+1)) (hv e (keep ag<|hv i (n+1)).n) (.bi .d8 (keep ag<|hv i (n+1)).e (hv e (keep ag<|hv i (n+1)).n).e) from a9 hb,zQ,iD]
  have qa:Bd f (n+1) (tE i+1+(tE e+1)):=q.up (bA<|ay (·+2) (iW (tE i) 1<|tE e))
  have qk:=qa.keep (late:=ag) (aF _)
  have s:=A _ [] (qk.nil.le<|aR _)
  have l:=(cg e (keep ag<|hv i (n+1)).n).1
  have F:=adf (f:=f) hN (q.n1<|bG (bQ _)) (qk.f1<|bG (bQ _)) (Gu<|aj (bG<|aj (bK (bG<|bQ _) _) qk.1) aa) (qk.nil.y8<|aj l (aR _)) (qk.nil.rU<|i6 l) (KS I oi (qa.le<|aW _ _) hN) s
  revert F
  show _->ao (N+5) 15 _ _ _ [bk (hv e (keep ag<|hv i (n+1)).n).n,_]
  generalize hv e (keep ag<|hv i (n+1)).n=x
  generalize keep ag (hv i<|n+1)=K
  intro F
  exact HV.go (g:=30) y (ao.go [.call (.val<|.bool ae) [],.call (.val<|cy (aG<|n+1)) [bk x.n,ot<|((f++av K.o)++[ei (aG<|n+1)<|ak (.bW (.la .cS (.var bz) K.e)<|.lit .none)])++[aM<|eA (gq<|aG (n+1)) (x.o++[cB (aG<|n+1)<|.bi .d8 K.e x.e])]]] λk hk z=>an (yy oe (s0 g) hb k<|h9 hN hk)<|an (F k hk) z) h' λk=>by kernel_rfl
 |false=>
  rw[show hv (.c8 i e) n=⟨.c8 (hv i n).e e,(hv i n).n,(hv i n).o⟩ from br<|cz.mp hb]
  have T:=KU I oi (s0 g) q.a2 hN
  exact HV.go (g:=30) y (ao.go (n:=N+3) [.call (.val<|.bool ag) [],.call (.val<|.bool ag) [],.call (.val<|iR (ak (hv i n).e)) [bk (hv i n).n,ot<|f++av (hv i n).o],.call (.val<|ak e) [bk (hv i n).n,ot<|f++av (hv i n).o]] λk hk z=>have q9:=h9 hN hk;an (yy oe (s0 g) hb k q9) (an (yy oe (s0 g) hb k q9)<|an (T k<|aj (aR _) hk) (an (Ps (n:=(hv i n).n) (f:=f++av (hv i n).o) oe (s0 g) hb k<|aj (bG hN) (aj (aW (N+1) 2) hk)) z))) h' λk=>by kernel_rfl
end
theorem HV.all{h:ai}{e:E}(o:aL ae h e):h<=9000->HV (6*h+10) e:=by
 have N9:∀h,9<=6*h+10:=λh=>aj aa (bY 10 _)
 have up:∀{h m:ai}{e:E},m<=6->HV (6*h+10+m) e->HV (6*(h+1)+10) e:=λhm H=>H.aU (aj (bK hm _)<|bA (iW _ 10 6))
 have pl:∀{h:ai}{e:E},aL ae h e->h<=9000->Y e=ag->HV (6*h+10) e:=λ{h e} o g hy=>HV.aU (HV.same (N:=9) o (s0 g) (aF 9) λq=>dk (hy.symm.trans q) ed) (bY 10 _)
 induction o with
 |lit q=>exactλg=>pl (.lit q) g rfl|var q=>exactλg=>pl (.var q) g rfl|y0=>exactλg=>HV.y0.aU (bY 10 _)|dW q=>exactλg=>pl (.dW q) g rfl|@un h u e hu oe ih=>
  intro g
  have g:=eL g
  have A:=ih g
  have n9:=N9 h
  cases u with
  |y1=>exact up (m:=3) aa (HV.y1 A oe g n9)|yf=>exact up (m:=3) aa (HV.yf A oe g n9)|call=>exact up (m:=4) aa (HV.CV A oe g n9)|nt=>exact up (m:=2) aa (HV.plain (.inl rfl) A oe g n9)|neg=>exact up (m:=2) aa (HV.plain (.inr<|.inl rfl) A oe g n9)|fF=>exact up (m:=2) aa (HV.plain (.inr<|.inr (.inl rfl)) A oe g n9)|iS=>exact up (m:=2) aa (HV.plain (.inr<|.inr (.inr<|.inl rfl)) A oe g n9)|jP=>exact up (m:=2) aa (HV.plain (.inr<|.inr (.inr<|.inr rfl)) A oe g n9)|aN x=>exact up (m:=2) aa (HV.aN hu (.inl rfl) A oe g n9)|op p x=>exact up (m:=2) aa (HV.aN (x:=x) hu (by cases p;exact .inr (.inr rfl);exact .inr<|.inl rfl) A oe g n9)|bS sp=>exact up (m:=3) aa (HV.Rp A oe g n9)
 |@bi h w a b oa ob aE aJ=>
  intro g
  have g:=eL g
  have A:=aE g
  have B:=aJ g
  have n9:=N9 h
  cases w with
  |y2=>exact up (m:=3) aa (HV.y2 A B oa ob g n9)|call=>exact up (m:=4) aa (HV.afe A B oa ob g n9)|bS sa sb=>exact up (m:=6) aa (HV.ag5 A B oa ob g n9)|dY=>exact up (m:=5) aa (HV.dY A B oa ob g n9)|d8=>exact up (m:=4) aa (HV.LG (.inl rfl) A B oa ob g n9)|fW p=>exact up (m:=4) aa (HV.LG (by cases p;exact .inr (.inr rfl);exact .inr<|.inl rfl) A B oa ob g n9)
 |@la h l a b oa ob aE aJ=>
  intro g
  have g:=eL g
  cases l with
  |bq o=>exact up (m:=3) aa (HV.bq (aE g) (aJ g) oa ob g<|N9 h)|cS=>exact up (m:=4) aa (HV.cS (aE g) (aJ g) oa ob g<|N9 h)
 |@cN h q a b oa ob aE aJ=>exactλg=>have g:=eL g;up (m:=3) aa (HV.cN (aE g) (aJ g) oa ob g<|N9 h)|@bW h a b oa ob hd aE aJ=>exactλg=>have g:=eL g;up (m:=3) aa (HV.bW (aE g) (aJ g) oa ob (hd rfl) g<|N9 h)|@c7 h a b oa ob aE aJ=>exactλg=>have g:=eL g;up (m:=3) aa (HV.c7 (aE g) (aJ g) oa ob g<|N9 h)|@c6 h a b d oa ob od aE aJ gW=>exactλg=>have g:=eL g;up (m:=3) aa (HV.c6 (aE g) (aJ g) (gW g) oa ob od g<|N9 h)|@dz h x e hx oe ih=>exactλg=>have g:=eL g;up (m:=3) aa (HV.dz hx (ih g) oe g<|N9 h)|@c8 h a b oa ob aE aJ=>exactλg=>have g:=eL g;up (m:=5) aa (HV.c8 (aE g) (aJ g) oa ob g<|N9 h)|@cZ h e w v oe hw hv ih=>exactλg=>have g:=eL g;up (m:=2) aa (HV.cZ hw hv (ih g) oe g<|N9 h)
theorem PK(g:ai->cT ai):∀(l:af ai)(acc:cT ai),∃r,(l.foldl (λnX c=>nX++g c) acc).toList=acc.toList++r
 |[],acc=>⟨[],(fy _).symm⟩
 |c::l,acc=>(PK g l<|acc++g c).elim λr h=>⟨(g c).toList++r,h.trans<|(ay (·++r) DY).trans (oz _ _ _)⟩
theorem Xh(x:aq):∃r,(IS x).cps.toList=An x::r:=
 (PK (λc=>(Jc (An x) c).toArray) x.cps.toList #[An x]).elim λr h=>⟨r++[An x],by
  unfold IS
  rw[Jy,<-ajL,h];rfl⟩
theorem M5{v:V}{a:ai}{r:af ai}(e:(Ar v).cps.toList=a::r)(h:a≠78):cD v .none=ag:=by
 show((Ar v).cps.toList==[78,111,110,101])=ag
 rw[e]
 exact beq_false_of_ne λq=>h (Jt q).1
theorem Z2{v:V}{m:ai}(h:bu m v):cD v .none=dS v:=by
 cases v with
 |none=>rfl|bool b=>cases b<;>rfl|int i=>
  show((fU<|toString i).cps.toList==[78,111,110,101])=ag
  refine beq_false_of_ne λq=>?_
  have h3:(78:ai)∈(toString i).toList.map q0:=(FN<|toString i).symm.trans q▸gZ ..
  obtain⟨c,hc,e⟩:=eE.mp h3
  have hN:c='N':=Tu.mp e
  subst hN
  exact(akK i _ hc).elim (λq=>dk q aa) λq=>dk q aa
 |str s=>exact(Xh s).elim λr e=>M5 (v:=.str s) e (aO (λq:ai=>q≠78) (λ_=>aa) λ_=>aa)|tuple xs=>
  have e:∃r,(tupleText<|aiq xs).cps.toList=40::r:=by
   unfold tupleText
   rw[z0,z0];exact⟨_,rfl⟩
  exact e.elim λr e=>M5 (v:=.tuple xs) e aa
 |list _=>exact h.elim|dict _=>exact h.elim
theorem abd{xs:af V}(h:xs.length<=4):ql xs=xs:=by
 show pA (xs.length-clipAt xs.length (-(4:ai))) (pD (clipAt xs.length<|-(4:ai)) xs)=xs
 rw[QH h aa,Tl]
 exact DN (aF _)
theorem abc{x:aq}(h:x.length<=6):kO x=x:=by
 have h:x.cps.toList.length<=6:=h
 show(⟨(pA (x.cps.toList.length-clipAt x.cps.toList.length (-(6:ai)))<|pD (clipAt x.cps.toList.length<|-(6:ai)) x.cps.toList).toArray⟩:aq)=x
 rw[QH h aa,Tl,ai0,DN<|aF _]
section
variable{h₀ h₁ n:ai}{s:St}{a b d e:E}{l:L}
theorem KD{e:E}(h:Y e=ae):cu e=ag:=by
 cases e with
 |var _=>cases h|_=>rfl
def SE(e:E):Prop:=∀n s,bX ae s.er->SX (cu e) (ev e s.er) n s (hv e n)
theorem SE.at{p:V×St}(h:SE e)(g:bX ae p.2)(k:ai)(t:St)(ht:t.er=p.2):SX (cu e) (ev e p.2) k t (hv e k):=ht▸h k t (ht.symm▸g)
theorem Gy{va:V}{t:St}(ha:ev a t=(va,t))(CB:ev a (ev b t).2=(va,(ev b t).2)):ev (.la l a b) t=(gu l va (ev b t).1,(ev b t).2):=
 aO (λz:V×St=>z=(gu l va (ev b t).1,(ev b t).2)) (λ_=>ay (λz:V×St=>(gu l z.1 (ev b t).1,z.2)) CB) λ_=>ay (λz:V×St=>(gu l z.1 (ev b z.2).1,(ev b z.2).2)) ha
theorem Ol(h:cu a=ag)(t:St):ev (.la l a b) t=(gu l (ev a t).1 (ev b (ev a t).2).1,(ev b (ev a t).2).2):=br λq=>ed (h.symm.trans (dc.mp q).1)
theorem Oq{x:aq}(h:cu b=ag)(t:St):ev (.la l (.var x) b) t=(gu l ((ev b t).2.get x) (ev b t).1,(ev b t).2.rd x):=a9 ((ay (λz=>!(z&&l.late)) h:(!(cu b&&l.late))=ae))
theorem abe(oa:aL ae h₀ a)(ob:aL ae h₀ b)(Sa:SE a)(Sb:SE b):SE (.la l a b):=λn s g=>by
 cases fE:cu a with
 |true=>
  have hx:=m4 oa fE
  have fE:=rZ fE
  generalize d5 a=x at hx fE
  subst fE
  cases hb:Y b with
  |false=>
   have e:hv (.la l (.var x) b) n=⟨.la l (.var x) b,n,[]⟩:=br (cz.mp hb)
   rw[e]
   exact⟨s,.plain (.la (.var hx) ob) rfl⟩
  |true=>
   have kR:=KD hb
   have e:hv (.la l (.var x) b) n=⟨.la l (.var x) (hv b n).e,(hv b n).n,(hv b n).o⟩:=by
    show pr (.la l) ae (Y b) b ⟨.var x,n,[]⟩ (hv b)=_
    have k:keep ae ⟨.var x,n,[]⟩=⟨.var x,n,[]⟩:=a9 (Jx _)
    rw[hb]
    show(⟨.la l (keep ae ⟨.var x,n,[]⟩).e (hv b (keep ae ⟨.var x,n,[]⟩).n).e,(hv b (keep ae ⟨.var x,n,[]⟩).n).n,(keep ae ⟨.var x,n,[]⟩).o++(hv b (keep ae ⟨.var x,n,[]⟩).n).o⟩:H)=_
    rw[k];rfl
   rw[e]
   exact(Sb n s g).elim λs1 S=>
    have F:ev (.la l (.var x) (hv b n).e) s1=(gu l ((ev (hv b n).e s1).2.get x) (ev (hv b n).e s1).1,(ev (hv b n).e s1).2.rd x):=by
     cases q:cu (hv b n).e with
     |false=>exact Oq q s1|true=>
      cases S.kind with
      |pl _ z=>exact dk (kR.symm.trans<|z q) ed|lt d z=>rw[z] at q;cases q|kp k w _ _ z hw=>
       rw[z]
       have e1:=kW hw
       have e2:=kW (s:=s1.rd x) ((L2<|aG k).trans hw)
       exact aO (λp:V×St=>p=(gu l ((ev (.var<|aG k) s1).2.get x) (ev (.var<|aG k) s1).1,(ev (.var<|aG k) s1).2.rd x)) (λ_=>rfl) λ_=>
        (ay (λp:V×St=>(gu l (s1.get x) p.1,p.2)) e2).trans (ay (λp:V×St=>(gu l (p.2.get x) p.1,p.2.rd x)) e1).symm
    have K:=λp:V×St=>(fD (ay (λz=>gu l z p.1) (k8 hx.T).symm) (kZ hx.T):hJ (gu l (p.2.get x) p.1,p.2.rd x)=(gu l (p.2.er.get x) p.1,p.2.er.rd x))
    ⟨s1,.pl S.dZ S.keep ((ay hJ F).trans ((K _).trans ((ay (λp:V×St=>(gu l (p.2.get x) p.1,p.2.rd x)) S.res).trans (Oq kR s.er).symm))) ((ay iV F).symm▸S.same.trans kM) rfl rfl⟩
 |false=>
  rw[Ol fE]
  exact(Sa n s g).elim λs1 S=>by
   have g':=(cX oa _ g).g
   rw[fE] at S
   cases hb:Y b with
   |true=>
    have e:hv (.la l a b) n=⟨.la l (keep ae<|hv a n).e (hv b (keep ae<|hv a n).n).e,(hv b (keep ae<|hv a n).n).n,(keep ae<|hv a n).o++(hv b (keep ae<|hv a n).n).o⟩:=a9 hb
    rw[e]
    exact(S.GF (late:=ae) (dI a n) λ_=>rfl).elim λs2 K=>(Sb.at g' _ s2 K.st).elim λs3 T=>
     have F:=Gy (l:=l) (K.pure s3 T.keep.bt) (K.pure _ (T.keep.trans<|T.same.same _).bt)
     ⟨s3,.pl ((Bw K.dZ).trans T.dZ) (K.keep.trans<|T.keep.aU (aj (dI a n)<|zb _ _)) ((ay hJ F).trans (ay (λp:V×St=>(gu l (ev a s.er).1 p.1,p.2)) T.res)) ((ay iV F).symm▸T.same) rfl rfl⟩
   |false=>
    have e:hv (.la l a b) n=⟨.la l (hv a n).e b,(hv a n).n,(hv a n).o⟩:=br (cz.mp hb)
    rw[e]
    have F:ev (.la l (hv a n).e b) s1=(gu l (ev (hv a n).e s1).1 (ev b (ev (hv a n).e s1).2).1,(ev b (ev (hv a n).e s1).2).2):=by
     cases q:cu (hv a n).e with
     |false=>exact Ol q s1|true=>
      cases S.kind with
      |pl _ z=>exact dk (z q) ed|lt d z=>rw[z] at q;cases q|kp k w _ _ z hw=>
       rw[z]
       have e1:=kW hw
       exact(Gy (l:=l) e1<|kW ((kX ob s1 k).trans hw)).trans (ay (λp:V×St=>(gu l p.1 (ev b p.2).1,(ev b p.2).2)) e1).symm
    exact⟨s1,.pl S.dZ S.keep ((ay hJ F).trans ((ay (λp:V×St=>(gu l (ev (hv a n).e s1).1 p.1,p.2))<|kt ob _).trans (ay (λp:V×St=>(gu l p.1 (ev b p.2).1,(ev b p.2).2)) S.res))) ((ay iV F).symm▸S.same.trans (kX ob _)) rfl rfl⟩
end
section
variable{h₀ n:ai}{s:St}{a b d e:E}
theorem SX.of{v:az}{p q:V×St}{h:H}(x:SX v p n s h)(e:p=q):SX v q n s h:=e▸x
theorem ae9{p:V×St}{h:H}(S:SX (cu a) p n s h)(hl:kQ a=ag):SX (cu<|fT a) (.str (cY p.1),p.2) n s (ij a h):=by
 have e1:fT a=.un .iS a:=br (cz.mp hl)
 have e2:ij a h=⟨.un .iS h.e,h.n,h.o⟩:=br (cz.mp hl)
 rw[e1,e2]
 exact S.elim λs1 S=>⟨s1,S.un (q:=.iS) trivial⟩
theorem H9(a:E)(t:St):ev (fT a) t=(if kQ a then(ev a t).1 else .str (cY (ev a t).1),(ev a t).2):=by
 cases h:kQ a with
 |true=>rw[show fT a=a from a9 h];rfl|false=>rw[show fT a=.un .iS a from br<|cz.mp h];rfl
theorem QN(h:SE a):∀n s,bX ae s.er->SX (cu<|fT a) (ev (fT a) s.er) n s (ij a<|hv a n):=λn s g=>by
 cases hl:kQ a with
 |true=>rw[show fT a=a from a9 hl,show ij a (hv a n)=hv a n from a9 hl];exact h n s g|false=>exact(ae9 (h n s g) hl).of ((H9 a s.er).trans (ay (λz:az=>((if z then(ev a s.er).1 else .str (cY (ev a s.er).1):V),(ev a s.er).2)) hl)).symm
theorem afa(o:aL ae h₀ a):∃h,aL ae h (fT a):=aO (λx:E=>∃h,aL ae h x) (λ_=>⟨h₀,o⟩) λ_=>⟨h₀+1,.un trivial o⟩
theorem KW{m:ai}{v:V}(h:bu m v)(q:az):cY (if q then v else .str (cY v))=cY v:=aO (λz:V=>cY z=cY v) (λ_=>rfl) λ_=>abc (m6 h).1
theorem Wk{w:W}(oa:aL ae h₀ a)(ob:aL ae h₀ b)(Sa:SE a)(Sb:SE b):SE (.bi w a b):=λn s g=>by
 have ga:=cX oa _ g
 have at':=Sb.at ga.g
 have P:∀w':W,SX ag (ev (.bi w' a b) s.er) n s (pr (.bi w') ag (Y b) b (hv a n)<|hv b):=λw'=>(Sa n s g).elim λs1 S=>zT ob S (dI a n) at'
 cases w with
 |y2=>exact((Sa (n+1) s g).elim λs1 S=>zT (yb:=Y b) (q:=.y2) ob S (dI a<|n+1) at').elim λs1 S=>S.mc (tO (dI a<|n+1)<|dI b)|bS sa sb=>
  show SX ag _ n s (pr (.bi<|.bS sa sb) ag (Y b) b (kL (Y b&&sa)<|hv a n)<|hv b)
  cases q:(Y b&&sa) with
  |false=>exact P _|true=>
   have hs:sa=ae:=(dc.mp q).2
   subst hs
   exact((Sa n s g).elim λs1 S=>zT (q:=.bS ae sb) (yb:=Y b) ob (S.un (q:=.bS ae) trivial) (dI a n) at').of
    (ay (λz=>(aip (ql<|z++fV sb (ev b (ev a s.er).2).1),(ev b (ev a s.er).2).2))<|abd (yu ga.v))
 |dY=>
  cases q:(Y a||Y b) with
  |false=>
   rw[show hv (.bi .dY a b) n=⟨.bi .dY a b,n,[]⟩ from br<|cz.mp q]
   exact⟨s,.plain (.bi oa ob) rfl⟩
  |true=>
   rw[show hv (.bi .dY a b) n=pr (.bi .dY) ag (Y b) (fT b) (ij a<|hv a n) (λk=>ij b<|hv b k) from a9 q]
   have e1:=H9 a s.er
   have e2:=H9 b (ev a s.er).2
   have gb:=cX ob _ ga.g
   exact(afa ob).elim λ_ fX=>((QN Sa n s g).elim λs1 S=>zT (q:=.dY) (yb:=Y b) fX S (CU a (hv a n)▸dI a n) λk t ht=>(ht▸QN Sb k t (ht.symm▸e1▸ga.g):SX _ _ k t _)).of
    ((ay (λz:V×St=>fG .dY z.1 (ev (fT b) z.2).1 (ev (fT b) z.2).2) e1).trans ((ay (λz:V×St=>fG .dY (if kQ a then(ev a s.er).1 else .str (cY (ev a s.er).1)) z.1 z.2) e2).trans
     (ay (·,(ev b (ev a s.er).2).2)<|ay jn (ay kO<|ay (mS qc) (by rw[KW ga.v,KW gb.v])))))
 |_=>exact P _
theorem Bj{u:St}{v:V}:ev (.var<|aG (n+1)) (u.bI (aG<|n+1) v)=(v,u.bI (aG<|n+1) v):=kW pZ
theorem M3{u:St}{v:V}:ev (.un .nt<|.var (aG<|n+1)) (u.bI (aG<|n+1) v)=(.bool (!bF v),u.bI (aG<|n+1) v):=ay (λp:V×St=>(mU (!bF p.1),p.2)) Bj
theorem FR{u:St}{v:V}:ev (gq<|aG (n+1)) (u.bI (aG<|n+1) v)=(.bool (cD v .none),u.bI (aG<|n+1) v):=Gy (l:=.bq .xf) (b:=.lit .none) Bj Bj
theorem EB{k:ai}:n+1<=(hv b (hv a<|n+1).n).n:=aj (dI a<|n+1) (dI b _)
theorem B9:n<=(hv a<|n+1).n:=eL (dI a<|n+1)
theorem CO{p:V×St}{u:St}{v:V}(h:u.er=p.2):(u.bI (aG<|n+1) v).er=p.2:=(xd<|oI _).trans h
theorem Wl{q:az}(oa:aL ae h₀ a)(ob:aL ae h₀ b)(Sa:SE a)(Sb:SE b):SE (.cN q a b):=λn s g=>by
 have ga:=cX oa _ g
 have F:ev (.cN q a b) s.er=if bF (ev a s.er).1=q then(.bool q,(ev a s.er).2) else(.bool (bF (ev b (ev a s.er).2).1),(ev b (ev a s.er).2).2):=rfl
 cases hb:Y b with
 |true=>
  rw[show hv (.cN q a b) n=d7 n (hv a<|n+1).o (.un .fF (hv a<|n+1).e) (if q then .un .nt (.var<|aG (n+1)) else .var (aG<|n+1)) (hv b (hv a<|n+1).n) (.un .fF (hv b (hv a<|n+1).n).e) from a9 hb]
  refine(Sa (n+1) s g).elim λs1 S=>zP (u:=(ev (hv a<|n+1).e s1).2) (v0:=.bool<|bF (ev (hv a<|n+1).e s1).1) (vc:=.bool<|if q then !bF (ev a s.er).1 else bF (ev a s.er).1) S.dZ rfl (S.all.aU<|aR n) (EB (k:=0)) ?_ (λz=>?_) λz=>?_
  ·rw[S.val];cases q;exact Bj;exact M3
  ·have z:bF (ev a s.er).1=q:=by cases q;exact cz.mpr z;exact(Tv _).mp λw=>z (ay (!·) w)
   exact fD ((ay (λw=>mU<|bF w) S.val).trans (ay mU z)) S.st |>.trans (F.trans<|a9 z).symm
  ·have z:¬bF (ev a s.er).1=q:=by cases q;exactλw=>ed (w.symm.trans z);exactλw=>ed ((ay (!·) w).symm.trans z)
   exact(Sb.at ga.g _ _ (CO S.st)).elim λs3 T=>⟨s3,T.dZ,T.all.aU B9,(ay (λp:V×St=>(mU (bF p.1),p.2)) T.res).trans (F.trans<|br z).symm⟩
 |false=>
  rw[show hv (.cN q a b) n=⟨.cN q (hv a n).e b,(hv a n).n,(hv a n).o⟩ from br<|cz.mp hb]
  exact(Sa n s g).elim λs1 S=>⟨s1,.pl S.dZ S.keep
   ((lR (a:=(.bool q,(ev (hv a n).e s1).2)) (b:=(.bool (bF (ev b (ev (hv a n).e s1).2).1),(ev b (ev (hv a n).e s1).2).2)) rfl (ay (λp:V×St=>(mU (bF p.1),p.2))<|kt ob _)).trans (ay (λp:V×St=>if bF p.1=q then(mU q,p.2) else(mU (bF (ev b p.2).1),(ev b p.2).2)) S.res))
   (aO (λp:V×St=>dE s1 p.2) (λ_=>S.same) λ_=>S.same.trans<|kX ob _) rfl rfl⟩
theorem We(oa:aL ae h₀ a)(ob:aL ae h₀ b)(Sa:SE a)(Sb:SE b):SE (.c7 a b):=λn s g=>by
 have ga:=cX oa _ g
 have F:ev (.c7 a b) s.er=if bF (ev a s.er).1 then ev a s.er else ev b (ev a s.er).2:=rfl
 cases hb:Y b with
 |true=>
  rw[show hv (.c7 a b) n=d7 n (hv a<|n+1).o (hv a<|n+1).e (.un .nt<|.var (aG<|n+1)) (hv b (hv a<|n+1).n) (hv b (hv a<|n+1).n).e from a9 hb]
  refine(Sa (n+1) s g).elim λs1 S=>zP S.dZ rfl (S.all.aU<|aR n) (EB (k:=0)) M3 (λz=>?_) λz=>?_
  ·have z:bF (ev a s.er).1=ae:=S.val▸(Tv _).mp λw=>z (ay (!·) w)
   exact S.res.trans (F.trans<|a9 z).symm
  ·have z:¬bF (ev a s.er).1=ae:=S.val▸λw=>ed ((ay (!·) w).symm.trans z)
   exact(Sb.at ga.g _ _ (CO S.st)).elim λs3 T=>⟨s3,T.dZ,T.all.aU B9,T.res.trans (F.trans<|br z).symm⟩
 |false=>
  rw[show hv (.c7 a b) n=⟨.c7 (hv a n).e b,(hv a n).n,(hv a n).o⟩ from br<|cz.mp hb]
  exact(Sa n s g).elim λs1 S=>⟨s1,.pl S.dZ S.keep ((lR rfl (kt ob _)).trans (ay (λp:V×St=>if bF p.1 then p else ev b p.2) S.res)) (aO (λp:V×St=>dE s1 p.2) (λ_=>S.same) λ_=>S.same.trans<|kX ob _) rfl rfl⟩
theorem Wd(oa:aL ae h₀ a)(ob:aL ae h₀ b)(od:aL ae h₀ d)(Sa:SE a)(Sb:SE b)(Sd:SE d):SE (.c6 a b d):=λn s g=>by
 have ga:=cX oa _ g
 have F:ev (.c6 a b d) s.er=if bF (ev a s.er).1 then ev b (ev a s.er).2 else ev d (ev a s.er).2:=rfl
 cases hb:(Y b||Y d) with
 |true=>
  rw[show hv (.c6 a b d) n=Ck n (hv a<|n+1) (hv b (hv d (hv a<|n+1).n).n) (hv d (hv a<|n+1).n) from a9 hb]
  refine(Sa (n+1) s g).elim λs1 Z=>?_
  have R:=λ(x y:af S)=>((nR Z.dZ).trans (ay (λv=>if bF v then run x (ev (hv a<|n+1).e s1).2 else run y (ev (hv a<|n+1).e s1).2) Z.val):run ((hv a<|n+1).o++[.b9 (hv a<|n+1).e x y ae]) s=_)
  have k1:=Z.all.aU (aR n)
  have l1:n<=(hv a<|n+1).n:=B9
  have l2:=aj l1 (dI d (hv a<|n+1).n)
  have up:=aj (dI a<|n+1) (aj (dI d (hv a<|n+1).n)<|dI b _)
  by_cases q:bF (ev a s.er).1=ae
  ·exact(Sb.at ga.g _ _ Z.st).elim λs3 T=>⟨_,yw ((R _ _).trans ((a9 q).trans (vX T.dZ))) up (k1.trans<|T.all.aU l2)<|T.res.trans (F.trans<|a9 q).symm⟩
  ·exact(Sd.at ga.g _ _ Z.st).elim λs3 T=>⟨_,yw ((R _ _).trans ((br q).trans (vX T.dZ))) up (k1.trans<|T.all.aU l1)<|T.res.trans (F.trans<|br q).symm⟩
 |false=>
  rw[show hv (.c6 a b d) n=⟨.c6 (hv a n).e b d,(hv a n).n,(hv a n).o⟩ from br<|cz.mp hb]
  exact(Sa n s g).elim λs1 Z=>⟨s1,.pl Z.dZ Z.keep ((lR (kt ob _)<|kt od _).trans (ay (λp:V×St=>if bF p.1 then ev b p.2 else ev d p.2) Z.res)) (aO (λp:V×St=>dE s1 p.2) (λ_=>Z.same.trans<|kX ob _) λ_=>Z.same.trans<|kX od _) rfl rfl⟩
def dB(a:E)(t:St):V×St:=if cu a then(t.get (d5 a),t) else ev a t
theorem agU(oa:aL ae h₀ a)(g:bX ae s):Ge ae s (dB a s):=aO (Ge ae s) (λ_=>⟨g,g.get _,aF _⟩) λ_=>cX oa s g
theorem Ij(x:E)(t:St):ev (.bW x<|.lit .none) t=dB x t:=aO (λp:V×St=>p=dB x t) (λh=>by
  show(As,(dB x t).2)=dB x t
  have h:dS (dB x t).1=ae:=h
  revert h
  generalize dB x t=p
  cases p with|mk v u=>cases v with
   |none=>exactλ_=>rfl|_=>exactλh=>nomatch h) λ_=>rfl
theorem Rh{s1:St}(oa:aL ae h₀ a)(S:eI (cu a) (ev a s.er) n s (hv a n) s1):hJ (dB (hv a n).e s1)=dB a s.er/\dE s1 (dB (hv a n).e s1).2:=by
 cases fE:cu a with
 |true=>
  have hx:=m4 oa fE
  have fE:=rZ fE
  generalize d5 a=x at hx fE
  subst fE
  have e:s1=s:=by cases S.dZ;rfl
  subst e
  exact⟨fD (k8 hx.T).symm rfl,dE.refl _⟩
 |false=>
  have e:dB a s.er=ev a s.er:=br (cz.mp fE)
  have e':dB (hv a n).e s1=ev (hv a n).e s1:=by
   cases q:cu (hv a n).e with
   |false=>exact br (cz.mp q)|true=>
    cases S.kind with
    |pl _ z=>exact dk (fE.symm.trans<|z q) ed|lt d z=>rw[z] at q;cases q|kp k w _ _ z hw=>rw[z,kW hw];exact fD (acS hw) rfl
  rw[e,e']
  exact⟨S.res,S.same⟩
theorem wI{m:ai}{v:V}(h:bu m v){b:az}(q:bF (.bool<|cD v .none)=b):dS v=b:=(Z2 h).symm.trans q
theorem Wj(oa:aL ae h₀ a)(ob:aL ae h₀ b)(Sa:SE a)(Sb:SE b):SE (.bW a b):=λn s g=>by
 have ga:=agU oa g
 have F:ev (.bW a b) s.er=if dS (dB a s.er).1 then ev b (dB a s.er).2 else dB a s.er:=rfl
 cases hb:Y b with
 |true=>
  rw[show hv (.bW a b) n=d7 n (hv a<|n+1).o (.bW (hv a<|n+1).e<|.lit .none) (gq<|aG (n+1)) (hv b (hv a<|n+1).n) (hv b (hv a<|n+1).n).e from a9 hb]
  refine(Sa (n+1) s g).elim λs1 S=>?_
  have k:=Rh oa S
  have kv:(dB (hv a<|n+1).e s1).1=(dB a s.er).1:=(ay fK k.1:)
  have ks:(dB (hv a<|n+1).e s1).2.er=(dB a s.er).2:=(ay iV k.1:)
  refine zP S.dZ (Ij _ _) ((S.keep.aU<|aR n).trans (k.2.same n)) (EB (k:=0)) FR (λz=>?_) λz=>?_
  ·exact k.1.trans (F.trans<|br (cz.mp<|wI ga.v (kv▸cz.mpr z))).symm
  ·exact(Sb.at ga.g _ _ (CO ks)).elim λs3 T=>⟨s3,T.dZ,T.all.aU B9,T.res.trans (F.trans<|a9 (wI ga.v<|kv▸z)).symm⟩
 |false=>
  rw[show hv (.bW a b) n=⟨.bW (hv a n).e b,(hv a n).n,(hv a n).o⟩ from br<|cz.mp hb]
  exact(Sa n s g).elim λs1 S=>have k:=Rh oa S
   ⟨s1,.pl S.dZ S.keep ((lR (kt ob _) rfl:hJ (if dS (dB (hv a n).e s1).1 then ev b (dB (hv a n).e s1).2 else dB (hv a n).e s1)=_).trans (ay (λp:V×St=>if dS p.1 then ev b p.2 else p) k.1))
    (aO (λp:V×St=>dE s1 p.2) (λ_=>k.2.trans (kX ob _)) λ_=>k.2) rfl rfl⟩
theorem Wf{x:aq}(hx:Nm ae x)(ob:aL ae h₀ b)(Sb:SE b):SE (.dz x b):=λn s g=>by
 cases hb:Y b with
 |true=>
  rw[show hv (.dz x b) n=d7 n [] (.bW (.var x)<|.lit .none) (gq<|aG (n+1)) (hv b<|n+1) (.un (.aN x) (hv b<|n+1).e) from a9 hb]
  have kv:s.get x=s.er.get x:=(k8 hx.T).symm
  have F:ev (.dz x b) s.er=if dS (s.er.get x) then((ev b s.er).1,(ev b s.er).2.bI x (ev b s.er).1) else(s.er.get x,s.er):=rfl
  refine zP (s1:=s) rfl (Ij _ _) (dN.refl n s) (dI b<|n+1) FR (λz=>?_) λz=>?_
  ·exact(fD kv rfl).trans (F.trans<|br (cz.mp<|wI (g.get x) (kv▸cz.mpr z))).symm
  ·exact(Sb (n+1) (s.bI (aG<|n+1)<|s.get x)<|(xd<|oI _).symm▸g).elim λs3 T=>⟨s3,T.dZ,(T.all.trans<|(nQ hx.T).same _).aU (aR n),
    ((fD rfl (uE hx.T)).trans (ay (λp:V×St=>(p.1,p.2.bI x p.1))<|T.res.trans (ay (ev b)<|xd (oI _)))).trans (F.trans<|a9 (wI (g.get x)<|kv▸z)).symm⟩
 |false=>
  rw[show hv (.dz x b) n=⟨.dz x b,n,[]⟩ from br<|cz.mp hb]
  exact⟨s,.plain (.dz hx ob) rfl⟩
theorem aeG{c:az}(g:bX c s):(s.val bz).isSome=ae:=(C2 bz s.vars).symm.trans (DU.mpr (by
 obtain⟨p,hp,e⟩:=eE.mp g.d
 exact⟨p,hp,beq_iff_eq.mpr e⟩))
theorem Xp{c:az}(g:bX c s.er):s.rd bz=s:=(BA s bz).trans (a9<|(ay sM<|CN (s:=s) mJ).symm.trans (aeG g))
theorem Wg(oa:aL ae h₀ a)(ob:aL ae h₀ b)(Sa:SE a)(Sb:SE b):SE (.c8 a b):=λn s g=>by
 have ga:=cX oa _ g
 have F:ev (.c8 a b) s.er=if dS (dD ((ev a s.er).2.get bz) (ev a s.er).1) then((ev b (ev a s.er).2).1,(ev b (ev a s.er).2).2.eH (ev a s.er).1 (ev b (ev a s.er).2).1) else(dD ((ev a s.er).2.get bz) (ev a s.er).1,(ev a s.er).2):=rfl
 cases hb:Y b with
 |true=>
  rw[show hv (.c8 a b) n=d7 n (keep ag<|hv a (n+1)).o (.bW (.la .cS (.var bz) (keep ag<|hv a (n+1)).e)<|.lit .none) (gq<|aG (n+1)) (hv b (keep ag<|hv a (n+1)).n) (.bi .d8 (keep ag<|hv a (n+1)).e (hv b (keep ag<|hv a (n+1)).n).e) from a9 hb]
  refine((Sa (n+1) s g).elim λs1 S=>S.GF (late:=ag) (dI a<|n+1) nofun).elim λs2 K=>?_
  have up:=aj (dI a<|n+1) (zb ag<|hv a (n+1))
  revert up K
  generalize Mine.L.keep ag (hv a<|n+1)=k
  intro K up
  have g2:bX ae s2.er:=K.st.symm▸ga.g
  have kv:dD (s2.get bz) (ev a s.er).1=dD ((ev a s.er).2.get bz) (ev a s.er).1:=ay (λz=>dD z (ev a s.er).1) ((k8 (s:=s2) mJ).symm.trans<|ay (λu=>St.get u bz) K.st)
  have e1:ev (.la .cS (.var bz) k.e) s2=(dD (s2.get bz) (ev a s.er).1,s2):=(a9 (Tw _▸rfl):ev (.la .cS (.var bz) k.e) s2=_).trans
   ((ay (λp:V×St=>(dD (p.2.get bz) p.1,p.2.rd bz))<|K.pure s2 (dN.refl _ _).bt).trans (fD rfl (Xp g2)))
  have vx:=(zH (a:=(ev a s.er).1)<|ga.g.get bz).ok
  refine zP K.dZ ((Ij _ _).trans e1) (K.keep.aU<|aR n) (aj up<|dI b _) FR (λz=>?_) λz=>?_
  ·exact(fD kv K.st).trans (F.trans<|br (cz.mp<|wI vx (kv▸cz.mpr z))).symm
  ·refine(Sb.at ga.g k.n (s2.bI (aG<|n+1)<|dD (s2.get bz) (ev a s.er).1)<|CO K.st).elim λs3 T=>?_
   have e3:ev (.bi .d8 k.e (hv b k.n).e) s3=((ev (hv b k.n).e s3).1,(ev (hv b k.n).e s3).2.eH (ev a s.er).1 (ev (hv b k.n).e s3).1):=
    ay (λp:V×St=>((ev (hv b k.n).e p.2).1,(ev (hv b k.n).e p.2).2.eH p.1 (ev (hv b k.n).e p.2).1)) (K.pure s3 λj lo hj=>(T.keep j hj).trans (wC λe=>Ax _ (EH e▸lo)))
   refine⟨s3,T.dZ,?_⟩
   rw[e3]
   exact⟨(T.all.trans<|(nQ mJ).same _).aU (eL up),((fD rfl zE).trans (ay (λp:V×St=>(p.1,p.2.eH (ev a s.er).1 p.1)) T.res)).trans (F.trans<|a9 (wI vx<|kv▸z)).symm⟩
 |false=>
  rw[show hv (.c8 a b) n=⟨.c8 (hv a n).e b,(hv a n).n,(hv a n).o⟩ from br<|cz.mp hb]
  have G:=λp:V×St=>((lR ((fD rfl zE).trans (ay (λq:V×St=>(q.1,q.2.eH p.1 q.1))<|kt ob p.2)) rfl).trans (ay (λz:V=>if dS (dD z p.1) then((ev b p.2.er).1,(ev b p.2.er).2.eH p.1 (ev b p.2.er).1) else(dD z p.1,p.2.er)) (k8 (s:=p.2) mJ).symm):
   hJ (if dS (dD (p.2.get bz) p.1) then((ev b p.2).1,(ev b p.2).2.eH p.1 (ev b p.2).1) else(dD (p.2.get bz) p.1,p.2))=_)
  exact(Sa n s g).elim λs1 S=>⟨s1,.pl S.dZ S.keep ((G<|ev (hv a n).e s1).trans (ay (λp:V×St=>if dS (dD (p.2.get bz) p.1) then((ev b p.2).1,(ev b p.2).2.eH p.1 (ev b p.2).1) else(dD (p.2.get bz) p.1,p.2)) S.res))
   (aO (λp:V×St=>dE s1 p.2) (λ_=>(S.same.trans<|kX ob _).trans (nQ mJ)) λ_=>S.same) rfl rfl⟩
theorem NH{w v:V}(h:cu e=ag)(t:St):ev (.cZ e w v) t=(if cD (ev e t).1 w||cD (ev e t).1 v then .int 7 else .int 8,(ev e t).2):=br (cz.mp h)
theorem Wc{w v:V}(oe:aL ae h₀ e)(hw:dr 0 w)(uq:dr 0 v)(Se:SE e):SE (.cZ e w v):=λn s g=>by
 cases GZ:cu e with
 |true=>
  have e1:hv e n=⟨e,n,[]⟩:=rZ GZ▸rfl
  rw[show hv (.cZ e w v) n=⟨.cZ (hv e n).e w v,(hv e n).n,(hv e n).o⟩ from rfl,e1]
  exact⟨s,.plain (.cZ oe hw uq) rfl⟩
 |false=>
  exact(Se n s g).elim λs1 S=>by
   have R:=NH (w:=w) (v:=v) GZ s.er
   have e':ev (.cZ (hv e n).e w v) s1=(if cD (ev (hv e n).e s1).1 w||cD (ev (hv e n).e s1).1 v then .int 7 else .int 8,(ev (hv e n).e s1).2):=by
    cases q:cu (hv e n).e with
    |false=>exact NH q s1|true=>
     cases S.kind with
     |pl _ z=>exact dk (GZ.symm.trans<|z q) ed|lt d z=>rw[z] at q;cases q|kp k u _ _ z hu=>
      rw[z]
      have r1:s1.rd (aG k)=s1:=ay iV (kW hu)
      show(if cD (s1.get<|aG k) w then(iq 7,s1.rd<|aG k) else if cD (s1.get<|aG k) v then(.int 7,(s1.rd<|aG k).rd<|aG k) else(.int 8,(s1.rd<|aG k).rd<|aG k))=(if cD (s1.get<|aG k) w||cD (s1.get<|aG k) v then .int 7 else .int 8,s1.rd<|aG k)
      rw[r1,r1]
      cases cD (s1.get<|aG k) w with
      |true=>rfl|false=>cases cD (s1.get<|aG k) v<;>rfl
   exact⟨s1,.pl S.dZ S.keep ((ay hJ e').trans ((ay (λp:V×St=>((if cD p.1 w||cD p.1 v then .int 7 else .int 8:V),p.2)) S.res).trans R.symm)) ((ay iV e').symm▸S.same) rfl rfl⟩
end
theorem j4{h:ai}{e:E}(o:aL ae h e):SE e:=by
 induction o with
 |lit q=>exactλn s g=>⟨s,rfl,dN.refl n s,rfl,dE.refl s,.lt _ rfl⟩
 |var q=>exactλn s g=>⟨s,.plain (h₀:=0) (.var q) q.VD⟩
 |y0=>exactλn s g=>eI.mc (.plain (h₀:=0) .y0 rfl) (aF _)|dW q=>exactλn s g=>⟨s,.plain (h₀:=0) (.dW q) rfl⟩
 |@un _ u e hu _ ih=>
  intro n s g
  cases q:qp u with
  |true=>rw[show hv (.un u e) n=kH (n+1) ⟨.un u (hv e<|n+1).e,(hv e<|n+1).n,(hv e<|n+1).o⟩ from a9 q];exact(ih (n+1) s g).elim λs1 Z=>(Z.un hu).mc (dI e<|n+1)|false=>rw[show hv (.un u e) n=⟨.un u (hv e n).e,(hv e n).n,(hv e n).o⟩ from br<|cz.mp q];exact(ih n s g).elim λs1 Z=>⟨s1,Z.un hu⟩
 |bi oa ob aE aJ=>exact Wk oa ob aE aJ|la oa ob aE aJ=>exact abe oa ob aE aJ|cN oa ob aE aJ=>exact Wl oa ob aE aJ|bW oa ob _ aE aJ=>exact Wj oa ob aE aJ|c7 oa ob aE aJ=>exact We oa ob aE aJ|c6 oa ob od aE aJ gW=>exact Wd oa ob od aE aJ gW|dz q ob aJ=>exact Wf q ob aJ|c8 oa ob aE aJ=>exact Wg oa ob aE aJ|cZ oe hw uq ih=>exact Wc oe hw uq ih
theorem ady{e:E}{n:ai}:n<=(qF e n).2:=by
 have P:=λ{p:Prop} [Decidable p] {x y:af S×ai}=>aO (λq:af S×ai=>n<=q.2) (p:=p) (a:=x) (b:=y)
 refine P (λ_=>P (λ_=>?_) λ_=>dI e n) λ_=>aF n
 cases e with
 |un u e=>exact dI e n|bi w a b=>exact tO (dI a n) (dI b)|_=>exact aF n
def Up(b:af S):Prop:=∀n,n<=(hB b n).2
theorem oZ{c:az}{h:ai}{b:af S}(o:bR c h b):Up b:=by
 refine bR.rec (motive_1:=λ_ x _=>∀n,n<=(h1 x n).2) (motive_2:=λ_ b _=>Up b) ?_ ?_ ?_ ?_ ?_ ?_ ?_ ?_ ?_ ?_ ?_ ?_ ?_ ?_ ?_ ?_ o
 ·exactλ_ n=>ady
 ·exactλ_ n=>dI _ n
 ·exactλ_ _ n=>aO (λq:af S×ai=>n<=q.2) (λ_=>aj (dI _ n)<|dI _ _) λ_=>aF n
 ·exactλn=>aF n
 ·exactλn=>aF n
 ·exactλ_ n=>dI _ n
 ·exactλ_ ib n=>ib n
 ·exactλ_ _ _ _ ib io n=>aj (dI _ n) (aj (ib _)<|io _)
 ·exactλ_ _ _ _ _ _ ib cV io n=>aO (λq:af S×ai=>n<=q.2) (λ_=>aj (dI _ n)<|aj (ib _) (aj (io _)<|aj (dI _ _) (aj (cV _)<|io _))) λ_=>aj (dI _ n) (aj (ib _)<|aj (io _) (cV _))
 ·exactλ_ _ ib n=>aO (λq:af S×ai=>n<=q.2) (λ_=>aj (dI _ n)<|ib _) λ_=>ib n
 ·exactλ_ _ ib n=>aO (λq:af S×ai=>n<=q.2) (λ_=>eL<|aj (dI _ (n+1)) (ib _)) λ_=>ib n
 ·exactλ_ _ ib n=>aj (dI _ n) (ib _)
 ·exactλ_ _ _ ix iy n=>aj (ix n) (aj (iy _)<|dI _ _)
 ·exactλ_ _ ib jf n=>aj (jf n) (ib _)
 ·exactλn=>aF n
 ·exactλ_ _ _ ix ir n=>aj (ix n) (ir _)
def RB(n:ai)(s:St)(x:aD (Sg×St))(g:Sg)(t:St):Prop:=∃t',x=ab (g,t')/\t'.er=t/\dN n s t'
def SB(b:af S):Prop:=∀n s g t,bX ae s.er->run b s.er=ab (g,t)->RB n s (run (hB b n).1 s) g t
def SS(x:S):Prop:=∀n s g t,bX ae s.er->g6 x s.er=ab (g,t)->RB n s (run (h1 x n).1 s) g t
section
variable{n m k h₀:ai}{s s1 t u:St}{g:Sg}{v:az}{p:V×St}{h:H}{e a b c:E}{x y z:aD (Sg×St)}{l o f:af S}
theorem RB.of(r:RB n s x g t)(e:y=x):RB n s y g t:=e▸r
theorem RB.at(r:RB m u x g t)(k:dN n s u)(h:n<=m):RB n s x g t:=r.imp λ_ r=>⟨r.1,r.2.1,k.trans<|r.2.2.aU h⟩
theorem RB.qf{q:S}(r:RB n s (g6 q s) g t):RB n s (run [q] s) g t:=r.of (yx _)
theorem SB.at'{q:af S}{u0:St}(h:SB q)(g0:bX ae u0)(e:u.er=u0)(r:run q u0=ab (g,t))(n:ai):RB n u (run (hB q n).1 u) g t:=h n u g t (e▸g0) (e▸r)
theorem VB{k:St->aD (Sg×St)}(h:e7 g=ae):gN (ab (g,t)) k=ab (eQ g,t):=by
 cases g with
 |nx=>cases h|ct=>cases h|_=>rfl
theorem acP{k:St->aD (Sg×St)}(h:e7 g=ag):gN (ab (g,t)) k=k t:=by
 cases g with
 |bk=>cases h|rt _=>cases h|_=>rfl
theorem yT{k k':St->aD (Sg×St)}(h:gN x k=ab (g,t))(hx:∀g' s',x=ab (g',s')->bX ae s'/\RB n s y g' s')(hk:∀g' s' t1,x=ab (g',s')->bX ae s'->t1.er=s'->dN n s t1->k s'=ab (g,t)->RB n t1 (k' t1) g t):RB n s (gN y k') g t:=
 (BQ h).elim λg' z=>z.elim λs' z=>(hx g' s' z.1).2.elim λt1 r=>z.2.elim (λq=>⟨t1,(ay (gN · k') r.1).trans ((VB q.1).trans (ay (λg=>ab (g,t1)) q.2.1)),r.2.1.trans q.2.2,r.2.2⟩)
  λq=>((hk g' s' t1 z.1 (hx g' s' z.1).1 r.2.1 r.2.2 q.2).at r.2.2 (aF n)).of ((ay (gN · k') r.1).trans (acP q.1))
theorem LH{k k':St->aD (Sg×St)}(h:fO x k=ab (g,t))(hx:∀g' s',x=ab (g',s')->bX ae s'/\RB n s y g' s')(hk:∀s' t1,bX ae s'->t1.er=s'->k s'=ab (g,t)->RB n t1 (k' t1) g t):RB n s (fO y k') g t:=
 (LI h).elim λg' z=>z.elim λs' z=>(hx g' s' z.1).2.elim λt1 r=>z.2.elim (λq=>((hk s' t1 (hx g' s' z.1).1 r.2.1 q.2).at r.2.2 (aF n)).of<|ay (fO · k') (r.1.trans (ay (λg=>ab (g,t1)) q.1)))
  λq=>⟨t1,(ay (fO · k') r.1).trans (by
   cases g' with
   |nx=>cases q.1|_=>exact ay (λg=>ab (g,t1)) q.2.1),r.2.1.trans q.2.2,r.2.2⟩
theorem eI.MD(S:eI ag p n s h s1)(q:cu h.e=ae\/lF h.e=ae):(ev h.e s1).2=s1:=by
 cases S.kind with
 |pl h1 h2=>exact q.elim (λq=>dk (h2 q) ed) λq=>dk (h1.symm.trans q) ed|lt d z=>rw[z];rfl|kp k w _ _ z hw=>rw[z,kW hw]
theorem W7(S:eI ag p n s h s1):g6 (.ex h.e) s1=ab (.nx,(ev h.e s1).2):=
 ay (λz=>ab (Sg.nx,z)) (aO (λz:St=>z=(ev h.e s1).2) (λq=>(S.MD<|.inl q).symm) λ_=>rfl)
theorem eI.ex(S:eI ag p n s h s1):RB n s (run (h.o++[.ex h.e]) s) .nx p.2:=⟨_,(nR S.dZ).trans (W7 S),S.st,S.all⟩
theorem eI.nw(S:eI ag p n s h s1):RB n s (run (h.o++nw h.e) s) .nx p.2:=by
 cases q:lF h.e with
 |true=>
  rw[show Mine.L.nw h.e=[] from a9 q,fy]
  exact⟨s1,S.dZ,(ay St.er<|S.MD (.inr q)).symm.trans S.st,S.keep⟩
 |false=>rw[show Mine.L.nw h.e=[.ex h.e] from br<|cz.mp q];exact S.ex
theorem afI(oe:aL ae h₀ e)(hy:ia e=ae):bX ae s.er->SX ag (ev e s.er) n s (fR e n):=
 aL.AI (P:=λ_ e=>bX ae s.er->SX ag (ev e s.er) n s (fR e n)) (λh g=>⟨s,.plain (h₀:=0) .y0 rfl⟩) (λh u e _ hu oe g=>(j4 oe n s g).elim λs1 Z=>⟨s1,Z.un hu⟩)
  (λh a b oa ob g=>(j4 oa n s g).elim λs1 Z=>zT ob Z (dI _ n)<|(j4 ob).at (cX oa _ g).g) oe hy
theorem W0(oe:aL ae h₀ e):SS (.ex e):=λn s g t G q=>by
 have q:ab (Sg.nx,if cu e then s.er else(ev e s.er).2)=ab (g,t):=q
 show RB n s (run (qF e n).1 s) g t
 cases hy:Y e with
 |false=>
  rw[show qF e n=([.ex e],n) from br<|cz.mp hy]
  refine RB.qf ⟨if cu e then s else(ev e s).2,?_⟩
  cases hv:cu e with
  |true=>rw[hv] at q;cases q;exact⟨ay (λb:az=>ab (Sg.nx,if b then s else(ev e s).2)) hv,rfl,dN.refl n s⟩|false=>rw[hv] at q;cases q;exact⟨ay (λb:az=>ab (Sg.nx,if b then s else(ev e s).2)) hv,(ay iV (kt oe s):),(kX oe s).same n⟩
 |true=>
  have hw:=KD hy
  rw[hw] at q
  cases q
  rw[show qF e n=(if ia e then((fR e n).o++[.ex (fR e n).e],(fR e n).n) else((hv e n).o++nw (hv e n).e,(hv e n).n)) from a9 hy]
  cases hb:ia e with
  |true=>exact(afI oe hb G).elim λs1 Z=>Z.ex|false=>exact(j4 oe n s G).elim λs1 Z=>(hw▸Z:eI ag _ n s _ s1).nw
def yB(p:V×St):St:=p.2.gj (.tuple [.str iz,.str<|cY p.1])
theorem eI.dT(Z:eI v p n s h s1):RB n s (run (h.o++[.dT h.e]) s) .nx (yB p):=⟨_,nR Z.dZ,ay yB Z.res,Z.all⟩
theorem W3(oe:aL ae h₀ e):SS (.dT e):=λn s g t G q=>by cases q;exact(j4 oe n s G).elim λs1 Z=>Z.dT
theorem RB.then(r:RB n s (run l s) .nx u)(r':∀t1,t1.er=u->RB m t1 (run o t1) g t)(h:n<=m):RB n s (run (l++o) s) g t:=r.elim λt1 r=>((r' t1 r.2.1).at r.2.2 h).of (Bw r.1)
theorem W2(oa:aL ae h₀ a)(ob:aL ae h₀ b):SS (.ig a b):=λn s g t G q=>by
 cases q
 show RB n s (run (if Y a||Y b then(((hv a n).o++[S.dT (hv a n).e])++((hv b (hv a n).n).o++[.dT (hv b (hv a n).n).e]),(hv b (hv a n).n).n) else([.ig a b],n)).1 s) .nx _
 refine aO (λq:af S×ai=>RB n s (run q.1 s) .nx _) (λ_=>?_) λ_=>?_
 ·exact(j4 oa n s G).elim λs1 Z=>Z.dT.then (λt1 e1=>(j4 ob _ t1<|e1.symm▸(zJ oa G).1).elim λs2 T=>by rw[e1] at T;exact T.dT) (dI a n)
 ·refine RB.qf ⟨_,rfl,?_,((show dE s (lS a s) from kX oa s).trans (show dE (lS a s) (lS b<|lS a s) from kX ob<|lS a s)).same n⟩
  exact(ay yB<|kt ob _).trans (ay (λz=>yB<|ev b z)<|ay yB (kt oa s))
theorem WW(oe:aL ae h₀ e):SS (.ret e):=λn s g t G q=>by
 cases q
 exact(j4 oe n s G).elim λs1 Z=>⟨_,(nR Z.dZ).trans (ay (λw=>ab (Sg.rt w,(ev (hv e n).e s1).2)) Z.val),Z.st,Z.all⟩
theorem eI.b9{b0 o0 B O:af S}{k:az}(Z:eI v p n s h s1)(q:(if bF p.1 then run b0 p.2 else run o0 p.2)=ab (g,t))(rb:∀u,u.er=p.2->run b0 p.2=ab (g,t)->RB n u (run B u) g t)(ro:∀u,u.er=p.2->run o0 p.2=ab (g,t)->RB n u (run O u) g t):RB n s (run (h.o++[.b9 h.e B O k]) s) g t:=by
 have e:run (h.o++[.b9 h.e B O k]) s=if bF p.1 then run B (ev h.e s1).2 else run O (ev h.e s1).2:=(nR Z.dZ).trans (ay (λw=>if bF w then run B (ev h.e s1).2 else run O (ev h.e s1).2) Z.val)
 refine RB.of ?_ e
 by_cases z:bF p.1=ae
 ·rw[a9 z] at q ⊢;exact(rb _ Z.st q).at Z.all (aF n)
 ·rw[br z] at q ⊢;exact(ro _ Z.st q).at Z.all (aF n)
theorem SB.un{q:af S}(H:SB q)(g0:bX ae u)(hn:n<=m):∀w,w.er=u->run q u=ab (g,t)->RB n w (run (hB q m).1 w) g t:=λw e r=>(H.at' g0 e r m).at (dN.refl n w) hn
theorem WY{b o:af S}{k:az}(oe:aL ae h₀ e)(ub:Up b)(ib:SB b)(io:SB o):SS (.b9 e b o k):=λn s g t G q=>
 have ge:=(cX oe _ G).g
 (j4 oe n s G).elim λs1 Z=>Z.b9 q (ib.un ge<|dI e n) (io.un ge<|aj (dI e n) (ub _))
theorem WX{b b' o:af S}{k:az}{e':E}(oe:aL ae h₀ e)(ey:aL ae h₀ e')(ub:Up b)(UL:Up b')(uo:Up o)(ib:SB b)(cV:SB b')(io:SB o):SS (.dH e b e' b' o k):=λn s g t G q=>by
 have ge:=(cX oe _ G).g
 have CF:=(cX ey _ ge).g
 have q:(if bF (ev e s.er).1 then run b (ev e s.er).2 else if bF (ev e' (ev e s.er).2).1 then run b' (ev e' (ev e s.er).2).2 else run o (ev e' (ev e s.er).2).2)=ab (g,t):=q
 have l1:=dI e n
 have l2:=aj l1 (ub (hv e n).n)
 have l3:=aj l2 (uo _)
 cases hy:Y e' with
 |true=>
  rw[show h1 (.dH e b e' b' o k) n=((hv e n).o++[.b9 (hv e n).e (hB b (hv e n).n).1 ((hv e' (hB o (hB b (hv e n).n).2).2).o++[.b9 (hv e' (hB o (hB b (hv e n).n).2).2).e (hB b' (hv e' (hB o (hB b (hv e n).n).2).2).n).1 (hB o (hB b' (hv e' (hB o (hB b (hv e n).n).2).2).n).2).1 k]) ae],(hB o (hB b' (hv e' (hB o (hB b (hv e n).n).2).2).n).2).2) from a9 hy]
  have l4:=aj l3 (dI e' _)
  exact(j4 oe n s G).elim λs1 Z=>Z.b9 (o0:=[.b9 e' b' o k]) (by rw[show run [.b9 e' b' o k] (ev e s.er).2=_ from yx _];exact q) (ib.un ge l1) λu eu r=>
   (j4 ey (hB o (hB b (hv e n).n).2).2 u<|eu▸ge).elim λs2 T=>(T.b9 (eu▸(yx _).symm.trans r) (eu▸cV.un CF (dI e' _))<|eu▸io.un CF (aj (dI e' _)<|UL _)).at (dN.refl n u) l3
 |false=>
  rw[show h1 (.dH e b e' b' o k) n=((hv e n).o++[.dH (hv e n).e (hB b (hv e n).n).1 e' (hB b' (hB o (hB b (hv e n).n).2).2).1 (hB o (hB b (hv e n).n).2).1 k],(hB b' (hB o (hB b (hv e n).n).2).2).2) from br<|cz.mp hy]
  refine(j4 oe n s G).elim λs1 Z=>?_
  have z1:=(ay fK (kt ey (ev (hv e n).e s1).2):)
  have z2:=(ay iV (kt ey (ev (hv e n).e s1).2):)
  have e1:run ((hv e n).o++[.dH (hv e n).e (hB b (hv e n).n).1 e' (hB b' (hB o (hB b (hv e n).n).2).2).1 (hB o (hB b (hv e n).n).2).1 k]) s=if bF (ev e s.er).1 then run (hB b (hv e n).n).1 (ev (hv e n).e s1).2 else if bF (ev e' (ev e s.er).2).1 then run (hB b' (hB o (hB b (hv e n).n).2).2).1 (ev e' (ev (hv e n).e s1).2).2 else run (hB o (hB b (hv e n).n).2).1 (ev e' (ev (hv e n).e s1).2).2:=
   (nR Z.dZ).trans ((ay (λw=>if bF w then run (hB b (hv e n).n).1 (ev (hv e n).e s1).2 else if bF (ev e' (ev (hv e n).e s1).2).1 then run (hB b' (hB o (hB b (hv e n).n).2).2).1 (ev e' (ev (hv e n).e s1).2).2 else run (hB o (hB b (hv e n).n).2).1 (ev e' (ev (hv e n).e s1).2).2) Z.val).trans
    (ay (λw=>if bF (ev e s.er).1 then run (hB b (hv e n).n).1 (ev (hv e n).e s1).2 else if bF w then run (hB b' (hB o (hB b (hv e n).n).2).2).1 (ev e' (ev (hv e n).e s1).2).2 else run (hB o (hB b (hv e n).n).2).1 (ev e' (ev (hv e n).e s1).2).2)<|z1.trans (ay (λu=>(ev e' u).1) Z.st)))
  refine RB.of ?_ e1
  have k2:=Z.all.trans ((kX ey _).same n)
  have z3:=z2.trans (ay (λu=>(ev e' u).2) Z.st)
  by_cases w:bF (ev e s.er).1=ae
  ·rw[a9 w] at q ⊢;exact(ib.un ge l1 _ Z.st q).at Z.all (aF n)
  ·rw[br w] at q ⊢
   by_cases w':bF (ev e' (ev e s.er).2).1=ae
   ·rw[a9 w'] at q ⊢;exact(cV.un CF l3 _ z3 q).at k2 (aF n)
   ·rw[br w'] at q ⊢;exact(io.un CF l2 _ z3 q).at k2 (aF n)
end
section
mutual
noncomputable def tS:S->ai
 | .ex e=>tE e+1| .dT a=>tE a+1| .ig a b=>(tE a+1)+(tE b+1)| .fk _=>1| .jK=>1| .ret e=>tE e+1| .gO b=>tB b+1| .b9 c b o _=>tE c+(tB b+(tB o+1))| .dH c b c' b' o _=>tE c+(tB b+(tB o+(tE c'+(tB b'+(tB o+1)))))| .cM c b=>tE c+(tB b+1)| .c9 b c=>tE c+(tB b+3)| .fe w b=>tE w+(tB b+1)| .sw c x y=>tB x+(tB y+(tE c+4))| .tr b f=>tB f+(tB b+1)
noncomputable def tB:af S->ai
 |[]=>0|x::r=>tS x+tB r
end
end
noncomputable def WB(n t:ai)(p:af S×ai):Prop:=p.1.length<=t/\p.2<=n+t
section
variable{n m k i j t:ai}{o:af S}{x:S}
theorem ch(h:m<=n+i)(h':k<=m+j):k<=n+(i+j):=aj h' (aj (dP h j)<|bA (fg n i j))
theorem ll(h:m<=n+i):m<=n+(i+j):=aj h (bK (aW i j) n)
theorem sl(h:o.length<=i)(hj:1<=j):(o++[x]).length<=i+j:=aj (i6 h) (bK hj i)
theorem p1{a b:ai}:1<=a+(b+1):=aj (bG<|bQ b) (bY _ a)
theorem l1{a:ai}:1<=a+1:=bG (bQ a)
theorem Ig{e:E}{n:ai}(hy:ia e=ae):Wi n (tE e) (fR e n):=by
 cases e with
 |y0=>exact⟨bQ _,aR n⟩|un u e=>exact(cg e n).le (aR _)|bi w a b=>exact((cg a n).pr<|cg b).le (aW _ 2)|_=>cases hy
theorem adx{e:E}{n:ai}:WB n (tE e+1) (qF e n):=by
 refine aO (WB n<|tE e+1) (λ_=>?_) λ_=>⟨l1,aW n _⟩
 cases q:ia e with
 |true=>rw[a9 rfl];exact⟨i6 (Ig q).1,ll (Ig q).2⟩|false=>
  rw[br ed]
  refine⟨?_,ll (cg e n).2⟩
  exact aO (λl:af S=>((hv e n).o++l).length<=tE e+1) (λ_=>(fy (hv e n).o).symm▸j2 (cg e n).1) λ_=>i6 (cg e n).1
end
theorem jb{c:az}{h:ai}{b:af S}(o:bR c h b):∀n,WB n (tB b) (hB b n):=by
 refine bR.rec (motive_1:=λ_ x _=>∀n,WB n (tS x)<|h1 x n) (motive_2:=λ_ b _=>∀n,WB n (tB b)<|hB b n) ?_ ?_ ?_ ?_ ?_ ?_ ?_ ?_ ?_ ?_ ?_ ?_ ?_ ?_ ?_ ?_ o
 ·exactλ_ n=>adx
 ·exactλ{_ e} _ n=>⟨i6 (cg e n).1,ll (cg e n).2⟩
 ·intro _ a b _ _ n
  refine aO (WB n<|(tE a+1)+(tE b+1)) (λ_=>⟨?_,ch (ll (cg a n).2)<|ll (cg b _).2⟩) λ_=>⟨p1,aW n _⟩
  exact aj (bA eX) (cQ (i6 (cg a n).1)<|i6 (cg b _).1)
 ·exactλn=>⟨aF 1,aR n⟩
 ·exactλn=>⟨aF 1,aR n⟩
 ·exactλ{_ e} _ n=>⟨i6 (cg e n).1,ll (cg e n).2⟩
 ·exactλ_ ib n=>⟨l1,ll (ib n).2⟩
 ·exactλ{_ e b o k} _ _ _ _ ib io n=>⟨sl (cg e n).1 p1,ch (cg e n).2<|ch (ib _).2 (ll (io _).2)⟩
 ·intro _ e b e' b' o k _ _ _ _ _ _ ib cV io n
  refine aO (WB n _) (λ_=>⟨sl (cg e n).1 (aj p1<|bY _ _),ch (cg e n).2<|ch (ib _).2 (ch (io _).2<|ch (cg e' _).2 (ch (cV _).2<|ll (io _).2))⟩) λ_=>⟨sl (cg e n).1 (aj p1<|bY _ _),ch (cg e n).2<|ch (ib _).2 (ch (io _).2<|aj (cV _).2 (bK (aj (aW _ _)<|bY _ _) _))⟩
 ·exactλ{_ e b} _ _ ib n=>aO (WB n<|tE e+(tB b+1)) (λ_=>⟨p1,ch (cg e n).2<|ll (ib _).2⟩) λ_=>⟨p1,aj (ll (ib n).2)<|bK (bY _ (tE e)) n⟩
 ·exactλ{_ e b} _ _ ib n=>aO (WB n<|tE e+(tB b+3)) (λ_=>⟨aj (bY 2<|tB b+1) (bY _ (tE e)),aj (ch (cg e<|n+1).2 (ib _).2)<|aj (bA<|iW n 1 (tE e+tB b)) (bK (bK (bK (aa:1<=3)<|tB b)<|tE e) n)⟩) λ_=>⟨p1,aj (ll (ib n).2)<|bK (bY _ (tE e)) n⟩
 ·exactλ{_ sa sb x y b} _ _ ib n=>⟨sl (cg _ n).1 l1,ch (cg _ n).2<|ll (ib _).2⟩
 ·exactλ{_ e x y} _ _ _ ix iy n=>⟨aj (sl (j:=4) (cg e _).1 aa) (aj (bY _ (tB y))<|bY _ (tB x)),ch (ix n).2<|ch (iy _).2 (ll (cg e _).2)⟩
 ·exactλ{_ b f} _ _ ib jf n=>⟨p1,ch (jf n).2<|ll (ib _).2⟩
 ·exactλn=>⟨aF 0,aF n⟩
 ·exactλ{_ x r} _ _ _ ix ir n=>⟨aj (bA eX) (cQ (ix n).1 (ir _).1),ch (ix n).2 (ir _).2⟩
theorem acM{c:az}{h:ai}{b:af S}(o:bR c h b):YB b=ag->∀n,hB b n=(b,n):=by
 have F:=λ{x y:af S×ai}{q:az}(h:q=ag)=>(br (cz.mp h):(if q then x else y)=y)
 refine bR.rec (motive_1:=λ_ x _=>YS x=ag->∀n,h1 x n=([x],n)) (motive_2:=λ_ b _=>YB b=ag->∀n,hB b n=(b,n)) ?_ ?_ ?_ ?_ ?_ ?_ ?_ ?_ ?_ ?_ ?_ ?_ ?_ ?_ ?_ ?_ o
 ·exactλ_ h n=>F h
 ·exactλ{_ e} _ h n=>ay (λx:H=>(x.o++[S.dT x.e],x.n)) (mB e h n)
 ·exactλ_ _ h n=>F h
 ·exactλ_ n=>rfl
 ·exactλ_ n=>rfl
 ·exactλ{_ e} _ h n=>ay (λx:H=>(x.o++[S.ret x.e],x.n)) (mB e h n)
 ·exactλ_ ib h n=>ay (λx:af S×ai=>([S.gO x.1],x.2)) (ib h n)
 ·intro _ e b o k _ _ _ _ ib io h n
  have h:=gT h
  have h2:=gT h.2
  exact(ay (λx:H=>(x.o++[S.b9 x.e (hB b x.n).1 (hB o (hB b x.n).2).1 k],(hB o (hB b x.n).2).2))<|mB e h.1 n).trans ((ay (λx:af S×ai=>([S.b9 e x.1 (hB o x.2).1 k],(hB o x.2).2))<|ib h2.1 n).trans (ay (λx:af S×ai=>([S.b9 e b x.1 k],x.2))<|io h2.2 n))
 ·intro _ e b e' b' o k _ _ _ _ _ _ ib cV io h n
  have h:=gT h
  have g1:=gT h.1
  have g2:=gT h.2
  have g3:=gT g2.1
  exact(F g3.1).trans ((ay (λx:H=>(x.o++[S.dH x.e (hB b x.n).1 e' (hB b' (hB o (hB b x.n).2).2).1 (hB o (hB b x.n).2).1 k],(hB b' (hB o (hB b x.n).2).2).2))<|mB e g1.1 n).trans
   ((ay (λx:af S×ai=>([S.dH e x.1 e' (hB b' (hB o x.2).2).1 (hB o x.2).1 k],(hB b' (hB o x.2).2).2))<|ib g1.2 n).trans ((ay (λx:af S×ai=>([S.dH e b e' (hB b' x.2).1 x.1 k],(hB b' x.2).2))<|io g2.2 n).trans (ay (λx:af S×ai=>([S.dH e b e' x.1 o k],x.2))<|cV g3.2 n))))
 ·exactλ{_ e b} _ _ ib h n=>have h:=gT h;(F h.1).trans (ay (λx:af S×ai=>([S.cM e x.1],x.2))<|ib h.2 n)
 ·exactλ{_ e b} _ _ ib h n=>have h:=gT h;(F h.2).trans (ay (λx:af S×ai=>([S.c9 x.1 e],x.2))<|ib h.1 n)
 ·exactλ{_ sa sb x y b} _ _ ib h n=>have h:=gT h;(ay (λx:H=>(x.o++[S.fe x.e (hB b x.n).1],(hB b x.n).2))<|mB _ h.1 n).trans (ay (λx:af S×ai=>([S.fe _ x.1],x.2))<|ib h.2 n)
 ·intro _ e x y _ _ _ ix iy h n
  have h:=gT h
  have h2:=gT h.2
  exact(ay (λp:af S×ai=>((hv e (hB y p.2).2).o++[S.sw (hv e (hB y p.2).2).e p.1 (hB y p.2).1],(hv e (hB y p.2).2).n))<|ix h2.1 n).trans ((ay (λp:af S×ai=>((hv e p.2).o++[S.sw (hv e p.2).e x p.1],(hv e p.2).n))<|iy h2.2 n).trans (ay (λp:H=>(p.o++[S.sw p.e x y],p.n))<|mB e h.1 n))
 ·exactλ{_ b f} _ _ ib jf h n=>have h:=gT h;(ay (λp:af S×ai=>([S.tr (hB b p.2).1 p.1],(hB b p.2).2))<|jf h.2 n).trans (ay (λp:af S×ai=>([S.tr p.1 f],p.2))<|ib h.1 n)
 ·exactλ_ n=>rfl
 ·exactλ{_ x r} _ _ _ ix ir h n=>have h:=gT h;(ay (λp:af S×ai=>(p.1++(hB r p.2).1,(hB r p.2).2))<|ix h.1 n).trans (ay (λp:af S×ai=>(x::p.1,p.2))<|ir h.2 n)
theorem ahb{x:S}{n:ai}(p:af S×ai)(h:(p.1++[],p.2)=([x],n)):p=([x],n):=(fD (fy p.1) rfl).symm.trans h
theorem Pw{c:az}{h:ai}{x:S}(o:fH c h x)(hy:YS x=ag)(n:ai):h1 x n=([x],n):=ahb (h1 x n) (acM (.cons o .nil λ_=>bQ 3) ((cJ _).trans hy) n)
theorem adA{h:ai}{e:E}(o:aL ag h e):bR ag (h+1) (nw e):=aO (bR ag<|h+1) (λ_=>.nil) λ_=>.bh (.ex o)
theorem afJ{h:ai}{e:E}(o:aL ae h e)(n:ai)(hn:n+tE e<=12000)(hy:ia e=ae):G (2*h+1) (2*h+3) (fR e n):=
 aL.AI (P:=λh e=>n+tE e<=12000->G (2*h+1) (2*h+3) (fR e n)) (λh _=>⟨.y0,.nil⟩)
  (λh' u e _ hu oe hn=>have g:=kl oe n (aj (aR _) hn);(show G (2*h'+1) (2*h'+3) ⟨.un u (hv e n).e,(hv e n).n,(hv e n).o⟩ from⟨.un hu.wk g.1,g.2⟩).to (aW _ 2) (aW _ 2))
  (λh' a b oa ob hn=>(G.pr (i:=2*h'+1) .bi ((kl oa n<|rQ hn).to (aR _)<|aF _) (ob.to _ (aj (lC _ aa)<|aR _)) (λk hk=>(kl ob k<|F2 hn aa (aj hk<|bG (cg _ n).2)).to (aR _)<|aF _) (aF _)<|Np hn aa (cg _ n).2).to (aR _)<|aW _ 2) o hy hn
theorem Oc{h:ai}{e:E}(o:aL ag (2*h) e):bR ag (2*h+3) [gn e]:=(bR.bh<|.b9 (aL.un (u:=.nt) trivial o) (.bh .fk) .nil λ_=>rfl).to _ (aR _)
theorem Pu{h:ai}{b:af S}(o:bR ae h b):∀n,n+tB b<=12000->bR ag (2*h+3) (hB b n).1:=by
 have w:∀{h:ai}{e:E},aL ae h e->aL ag (2*h+3) e:=λ{h e} o=>o.to _ (aj (lC h aa)<|aW _ 3)
 have S1:∀{h:ai}{o:af S}{x:S},bR ag (2*h+3) o->fH ag (2*h+4) x->bR ag (2*(h+1)+3) (o++[x]):=λo q=>(o.to _ (aW _ 2)).dq (bR.bh q |>.to _ (aR _))
 have S2:∀{h:ai}{x:S},fH ag (2*h+4) x->bR ag (2*(h+1)+3) [x]:=λq=>(bR.bh q).to _ (aR _)
 have E3:∀{h:ai}{e:E},aL ag (2*h) e->aL ag (2*h+3) e:=λo=>o.to _ (aW _ 3)
 refine bR.rec (c:=ae) (motive_1:=λh x _=>∀n,n+tS x<=12000->bR ag (2*h+3) (h1 x n).1) (motive_2:=λh b _=>∀n,n+tB b<=12000->bR ag (2*h+3) (hB b n).1) ?_ ?_ ?_ ?_ ?_ ?_ ?_ ?_ ?_ ?_ ?_ ?_ ?_ ?_ ?_ ?_ o
 ·intro h e oe n hn
  have hn:=aj (aR _) hn
  refine aO (λp:af S×ai=>bR ag (2*(h+1)+3) p.1) (λ_=>?_) λ_=>S2 (.ex<|w oe)
  cases q:ia e with
  |true=>rw[a9 rfl];have g:=afJ oe n hn q;exact S1 g.2 (.ex<|g.1.to _ (aW _ 2))|false=>rw[br ed];have g:=kl oe n hn;exact(g.2.to _ (aW _ 2)).dq ((adA g.1).to _ (aW _ 4))
 ·exactλoe n hn=>have g:=kl oe n (aj (aR _) hn);S1 g.2 (.dT<|E3 g.1)
 ·intro h a b oa ob n hn
  refine aO (λp:af S×ai=>bR ag (2*(h+1)+3) p.1) (λ_=>?_) λ_=>S2 (.ig (w oa)<|w ob)
  have ga:=kl oa n (aj (bK (aj (aR _)<|aW _ _) n) hn)
  have gb:=kl ob (hv a n).n (aj (ch (aj (cg a n).2<|aR _)<|aR _) hn)
  exact(S1 ga.2<|.dT (E3 ga.1)).dq (S1 gb.2<|.dT (E3 gb.1))
 ·exactλn _=>.bh .fk
 ·exactλn _=>.bh .jK
 ·exactλoe n hn=>have g:=kl oe n (aj (aR _) hn);S1 g.2 (.ret<|E3 g.1)
 ·exactλ_ ib n hn=>S2 (.gO<|ib n (aj (aR _) hn))
 ·intro h e b o k oe ob oo ho ib io n hn
  have g:=kl oe n (aj (bK (aW _ _) n) hn)
  have c1:=aj (ch (cg e n).2<|aF _) hn
  have gb:=ib _ (aj (bK (aW _ _) _) c1)
  have c2:=aj (ch (jb ob _).2<|aF _) c1
  exact S1 g.2 (.b9 (E3 g.1) gb (io _ (aj (aR _) c2)) λq=>by rw[ho q];rfl)
 ·intro h e b e' b' o k oe ob ey fX oo ho ib cV io n hn
  have g:=kl oe n (aj (bK (aW _ _) n) hn)
  have c1:=aj (ch (cg e n).2<|aF _) hn
  have gb:=ib _ (aj (bK (aW _ _) _) c1)
  have c2:=aj (ch (jb ob _).2<|aF _) c1
  have go:=io _ (aj (bK (aW _ _) _) c2)
  have c3:=aj (ch (jb oo _).2<|aF _) c2
  have no:∀m,k=ag->(hB o m).1=[]:=λm q=>by rw[ho q];rfl
  refine aO (λp:af S×ai=>bR ag (2*(h+1)+3) p.1) (λ_=>?_) λ_=>?_
  ·have g':=kl ey _ (aj (bK (aW _ _) _) c3)
   have c4:=aj (ch (cg e' _).2<|aF _) c3
   have uB:=cV _ (aj (bK (aW _ _) _) c4)
   have c5:=aj (ch (jb fX _).2<|aF _) c4
   have go':=io _ (aj (aR _) c5)
   exact(g.2.to _ (aW _ 2)).dq (.bh<|.b9 (g.1.to _ (aW _ 4)) (gb.to _ (aR _)) ((g'.2.to _ (aR _)).dq<|.bh (.b9 (E3 g'.1) uB go'<|no _)) nofun)
  ·have uB:=cV _ (aj (bK (aj (aW _ _)<|bY _ _) _) c3)
   exact S1 g.2 (.dH (E3 g.1) gb (w ey) uB go<|no _)
 ·intro h e b oe ob ib n hn
  refine aO (λp:af S×ai=>bR ag (2*(h+1)+3) p.1) (λ_=>?_) λ_=>S2 (.cM (w oe)<|ib n (aj (bK (aj (aR _)<|bY _ (tE e)) n) hn))
  have g:=kl oe n (aj (bK (aW _ _) n) hn)
  have c1:=aj (ch (cg e n).2<|aR _) hn
  exact S2 (.cM (.lit trivial)<|(g.2.dq<|Oc g.1).dq (ib _ c1))
 ·intro h e b oe ob ib n hn
  refine aO (λp:af S×ai=>bR ag (2*(h+1)+3) p.1) (λ_=>?_) λ_=>S2 (.c9 (w oe)<|ib n (aj (bK (aj (aW _ 3)<|bY _ (tE e)) n) hn))
  have n1:n+1<=12000:=aj (bK p1 n) hn
  have kq:n+1+(tE e+tB b)<=12000:=aj (bA<|iW n 1 (tE e+tB b)) (aj (bK (bK (bK (aa:1<=3)<|tB b)<|tE e) n) hn)
  have g:=kl oe (n+1) (aj (bK (aW _ _) _) kq)
  have c1:=aj (ch (cg e<|n+1).2<|aF _) kq
  have A:∀q:az,fH ag (2*h+4) (cB (aG<|n+1)<|.lit (.bool q)):=λq=>.ex (.un (u:=.aN<|aG (n+1)) (tN n1)<|.lit trivial)
  have L:=g.2.dq (Oc g.1)
  exact .cons (.ex<|.un (u:=.aN<|aG (n+1)) (tN n1) (.lit trivial)) (.bh<|.cM (.lit trivial) (.cons (.b9 (.var<|tN n1) L .nil λ_=>rfl) (.cons (A ae) ((ib _ c1).to _ (aR _)) nofun) nofun)) nofun
 ·intro h sa sb x y b oe ob ib n hn
  have g:=kl oe n (aj (bK (aW _ _) n) hn)
  have c1:=aj (ch (cg _ n).2<|aR _) hn
  have A:∃u v,(hv (.bi (.bS sa sb) x y) n).e=.bi (.bS sa sb) u v:=by
   show ∃u v,(pr (.bi<|.bS sa sb) ag (Y y) y (kL (Y y&&sa)<|hv x n)<|hv y).e=.bi (.bS sa sb) u v
   rw[rJ]
   exact⟨_,_,rfl⟩
  obtain⟨u,v,e1⟩:=A
  refine S1 g.2 ?_
  have g1:=E3 g.1
  rw[e1] at g1 ⊢
  exact .fe g1 (ib _ c1)
 ·intro h e x y oe ox oy ix iy n hn
  have gx:=ix n (aj (bK (aW _ _) n) hn)
  have c1:=aj (ch (jb ox n).2<|aF _) hn
  have gy:=iy _ (aj (bK (aW _ _) _) c1)
  have c2:=aj (ch (jb oy _).2<|bK (aW _ 4) _) c1
  have g:=kl oe _ c2
  exact S1 g.2 (.sw (E3 g.1) gx gy)
 ·intro h b f ob of ib jf n hn
  have gf:=jf n (aj (bK (aW _ _) n) hn)
  exact S2 (.tr (ib _ (aj (ch (jb of n).2<|aR _) hn)) gf)
 ·exactλn _=>.nil
 ·intro h x r ox or _ ix ir n hn
  have g1:=ix n (aj (bK (aW _ _) n) hn)
  have w1:(h1 x n).2<=n+tS x:=by
   have q:=(jb (.cons ox .nil λ_=>bQ 3) n).2
   exact q
  exact g1.dq (ir _ (aj (ch w1<|aF _) hn))
def lx(N:ai)(b:af S):Prop:=∀n:ai,n+tB b<=12000->ao N 33 [bk n] [.tuple<|av b] (.val<|.tuple (av (hB b n).1)) [bk (hB b n).2]
def RM(N:ai)(x:S):Prop:=∀(n:ai)(f:af V),Bd f n (tS x)->YS x=ae->ao N 34 [bk n,ot f] [aM x] (.val .none) [bk (h1 x n).2,ot<|f++av (h1 x n).1]
section
variable{N n h₀:ai}{f:af V}{c e w:E}{b o x y:af S}
theorem Bd.f2{o:af S}{t i:ai}{h:H}(d:Bd f n t)(w:Wi n i h)(l:i+1<=t):(f++av h.o).length+1<=100000:=(d.wi w l).f1 (aF 1)
theorem afK(o:aL ae h₀ e)(hy:ia e=ae)(A:∀{h:ai}{e:E},aL ae h e->h<=h₀->HV N e)(hN:9<=N)(g:h₀<=9000):Bd f n (tE e)->ao (N+2) 16 [bk n,ot f] [ak e] (.val<|ak (fR e n).e) [bk (fR e n).n,ot<|f++av (fR e n).o]:=by
 refine aL.AI (P:=λh e=>h<=h₀->Bd f n (tE e)->ao (N+2) 16 [bk n,ot f] [ak e] (.val<|ak (fR e n).e) [bk (fR e n).n,ot<|f++av (fR e n).o]) (λh l q=>?_) (λh u e hu _ oe l q=>?_) (λh a b oa ob l q=>?_) o hy (aF _)
 ·exact(show f++av []=f from fy f).symm▸(Q7 (n:=n) (f:=f)).aU (aj aa<|aj hN (aW N 2))
 ·have g':h<=10000:=aj (aj (eL l) g) aa
  cases u with
  |y1=>exact Q6 (A oe<|eL l) oe g' (q.le<|aR _) hN|yf=>exact Q4 (A oe<|eL l) oe g' (q.le<|aR _) hN|_=>cases hu
 ·have l:=eL l
  show ao (N+2) 16 _ _ (.val<|ak (pr (.bi .y2) ag (Y b) b (hv a n)<|hv b).e) [bk (pr (.bi .y2) ag (Y b) b (hv a n)<|hv b).n,ot<|f++av (pr (.bi .y2) ag (Y b) b (hv a n)<|hv b).o]
  rw[rJ]
  exact Q5 (A oa l) (A ob l) oa ob (aj (aj l g) aa) q.d2 hN
theorem nY(rs:Rs)(h:ia e=ag):cv .dt (.val<|.str (hd<|ak e)) (.val<|.tuple [.str fC,.str jN]) rs=ab ag:=(zm _ _ _ rs).trans (ay ab<|(Nv.ak e).Co.trans h)
theorem XO(o:aL ae h₀ e)(g:h₀<=9000)(A:∀{h:ai}{e:E},aL ae h e->h<=h₀->HV N e)(hN:9<=N)(hy:Y e=ae)(q:Bd f n (tE e+1)):ao (N+3) 35 [bk n,ot f] [ak e] (.val .none) [bk (qF e n).2,ot<|f++av (qF e n).1]:=by
 rw[show qF e n=(if ia e then((fR e n).o++[.ex (fR e n).e],(fR e n).n) else((hv e n).o++nw (hv e n).e,(hv e n).n)) from a9 hy]
 cases r:ia e with
 |true=>
  have B:=afK o r A hN g (q.le<|aR _)
  have l:=q.f2 (o:=[]) (Ig r) (aF _)
  show ao (N+3) 35 _ _ _ [bk (fR e n).n,ot<|f++av ((fR e n).o++[.ex (fR e n).e])]
  rw[iD]
  revert B l
  generalize fR e n=h
  intro B l
  exact ao.go [.aK 0 (.val<|.str (hd<|ak e)),.au 0 ae,.call (.val<|ak h.e) [bk h.n,ot<|f++av h.o],.bw 0 (.val .none) [bk h.n,ot<|(f++av h.o)++[aM<|.ex h.e]]] λk hk z=>an (i0 e [bk n,ot f]) (an (OH [bk n,ot f] r)<|an (B k hk) (an (app_1 (r:=bk h.n) (aM<|.ex h.e) l) z))
 |false=>
  have B:=A o (aF _) n f (q.le<|aR _)
  have l:=q.f2 (o:=[]) (cg e n) (aF _)
  have st:=E9 (w5 o<|aj (aR _) q.2)
  show ao (N+3) 35 _ _ _ [bk (hv e n).n,ot<|f++av ((hv e n).o++nw (hv e n).e)]
  revert B l st
  generalize hv e n=h
  intro B l st
  cases s:lF h.e with
  |true=>
   rw[s] at st
   rw[show nw h.e=[] from a9 s,fy]
   exact ao.go [.aK 0 (.val<|.str (hd<|ak e)),.au 0 ag,.call (.val<|ak h.e) [bk h.n,ot<|f++av h.o],.call (.val<|.bool ae) []] λk hk z=>an (i0 e [bk n,ot f]) (an (nY [bk n,ot f] r)<|an (B k<|aj (aW N 2) hk) (an (st k<|aj aa (h9 hN hk)) z))
  |false=>
   rw[s] at st
   rw[show nw h.e=[.ex h.e] from br (cz.mp s),iD]
   exact ao.go [.aK 0 (.val<|.str (hd<|ak e)),.au 0 ag,.call (.val<|ak h.e) [bk h.n,ot<|f++av h.o],.call (.val<|.bool ag) [],.bw 0 (.val .none) [bk h.n,ot<|(f++av h.o)++[aM<|.ex h.e]]] λk hk z=>an (i0 e [bk n,ot f]) (an (nY [bk n,ot f] r)<|an (B k<|aj (aW N 2) hk) (an (st k<|aj aa (h9 hN hk))<|an (app_1 (r:=bk h.n) (aM<|.ex h.e) l) z))
theorem O1{q:az}(A:HV N c)(B:lx N b)(Oo:lx N o)(ob:bR ae h₀ b)(ho:q=ag->o=[])(d:Bd f n (tE c+(tB b+(tB o+1))))(hN:9<=N):
  ao (N+1) 36 [bk n,ot f] [.tuple [.tuple [ak c,.tuple<|av b]],if q then .tuple (av o) else .none] (.val .none) [bk (h1 (.b9 c b o q) n).2,ot<|f++av (h1 (.b9 c b o q) n).1]:=by
 have s1:=A n f (d.le<|aW _ _)
 have d1:=d.wi (cg c n) (aF _)
 have s2:=B (hv c n).n (aj (bK (aW _ _) _) d1.2)
 have c2:=aj (ch (jb ob (hv c n).n).2<|aF _) d1.2
 have s3:=Oo (hB b (hv c n).n).2 (aj (aR _) c2)
 have l:=d1.f1 p1
 show ao (N+1) 36 _ _ _ [bk (hB o (hB b (hv c n).n).2).2,ot<|f++av ((hv c n).o++[S.b9 (hv c n).e (hB b (hv c n).n).1 (hB o (hB b (hv c n).n).2).1 q])]
 rw[iD]
 cases q with
 |true=>
  revert s1 s2 s3 l
  generalize hB o (hB b (hv c n).n).2=Q
  generalize hB b (hv c n).n=P
  generalize hv c n=h
  intro s1 s2 s3 l
  exact ao.go [.call (.val<|ak h.e) [bk h.n,ot<|f++av h.o],.call (.val<|.tuple (av P.1)) [bk P.2],.call (.val<|.tuple (av Q.1)) [bk Q.2],.call (.val<|.bool ag) [],.bw 0 (.val .none) [bk Q.2,ot<|(f++av h.o)++[aM<|.b9 h.e P.1 Q.1 ae]]] λk hk z=>an (s1 k hk) (an (s2 k hk)<|an (s3 k hk) (an (RD k<|aj aa (h9 (j:=0) hN hk))<|an (app_1 (r:=bk Q.2) (aM<|.b9 h.e P.1 Q.1 ae) l) z))
 |false=>
  obtain rfl:=ho rfl
  revert s1 s2 l
  show _->_->_->ao (N+1) 36 _ _ _ [bk (hB b (hv c n).n).2,ot<|(f++av (hv c n).o)++[aM<|.b9 (hv c n).e (hB b (hv c n).n).1 [] ag]]
  generalize hB b (hv c n).n=P
  generalize hv c n=h
  intro s1 s2 l
  exact ao.go [.call (.val<|ak h.e) [bk h.n,ot<|f++av h.o],.call (.val<|.tuple (av P.1)) [bk P.2],.call (.val<|.bool ag) [],.bw 0 (.val .none) [bk P.2,ot<|(f++av h.o)++[aM<|.b9 h.e P.1 [] ag]]] λk hk z=>an (s1 k hk) (an (s2 k hk)<|an (RD k<|aj aa (h9 (j:=0) hN hk)) (an (app_1 (r:=bk P.2) (aM<|.b9 h.e P.1 [] ag) l) z))
theorem RE{y:az}(o:aL ae h₀ e)(g:h₀<=10000)(h:Y e=y):ao 9 8 [] [.list [ak e]] (.val<|.bool y) []:=h▸(ahf<|jL o g).aU aa
theorem aci{q:az}{c':E}{b':af S}(A:HV N c)(B:lx N b)(A':HV N c')(B':lx N b')(Oo:lx N o)(ob:bR ae h₀ b)(FO:aL ae h₀ c')(fX:bR ae h₀ b')(oo:bR ae h₀ o)(ho:q=ag->o=[])(g:h₀<=9000)(d:Bd f n (tS<|.dH c b c' b' o q))(hN:9<=N):
  ao (N+2) 36 [bk n,ot f] [.tuple [.tuple [ak c,.tuple<|av b],.tuple [ak c',.tuple<|av b']],if q then .tuple (av o) else .none] (.val .none) [bk (h1 (.dH c b c' b' o q) n).2,ot<|f++av (h1 (.dH c b c' b' o q) n).1]:=by
 have s1:=(A n f<|d.le (aW _ _)).s1
 have d1:=d.wi (cg c n) (aF _)
 have s2:=(B (hv c n).n<|aj (bK (aW _ _) _) d1.2).s1
 have c2:=aj (ch (jb ob (hv c n).n).2<|aF _) d1.2
 have s3:=(Oo (hB b (hv c n).n).2<|aj (bK (aW _ _) _) c2).s1
 have c3:=aj (ch (jb oo (hB b (hv c n).n).2).2<|aF _) c2
 have l:=d1.f1 (aj p1<|aj (bY _ _) (aj (bY _ _)<|aj (bY _ _) (bY _ _)))
 cases hy:Y c' with
 |true=>
  have y:=RE FO (aj g aa) hy
  have di:Bd [] (hB o (hB b (hv c n).n).2).2 (tE c'+(tB b'+(tB o+1))):=⟨aj (aj (bA<|kC _)<|aj (bY _ _) c3) aa,c3⟩
  have inner:=O1 (q:=q) A' B' Oo fX ho di hN
  have wi:=(jb (bR.cons (fH.b9 (k:=q) FO fX oo ho) .nil λ_=>bQ 3) (hB o (hB b (hv c n).n).2).2).1
  have e1:h1 (.dH c b c' b' o q) n=((hv c n).o++[.b9 (hv c n).e (hB b (hv c n).n).1 (h1 (.b9 c' b' o q) (hB o (hB b (hv c n).n).2).2).1 ae],(h1 (.b9 c' b' o q) (hB o (hB b (hv c n).n).2).2).2):=a9 hy
  have lt:=di.rU (o:=(h1 (.b9 c' b' o q) (hB o (hB b (hv c n).n).2).2).1) (aj (bA<|ay DT (fy _).symm) wi)
  rw[e1]
  show ao (N+2) 36 _ _ _ [bk (h1 (.b9 c' b' o q) (hB o (hB b (hv c n).n).2).2).2,ot<|f++av ((hv c n).o++[.b9 (hv c n).e (hB b (hv c n).n).1 (h1 (.b9 c' b' o q) (hB o (hB b (hv c n).n).2).2).1 ae])]
  rw[iD]
  clear e1 wi
  cases q with
  |true=>
   revert s1 s2 s3 l inner lt
   generalize h1 (.b9 c' b' o ae) (hB o (hB b (hv c n).n).2).2=J
   generalize hB o (hB b (hv c n).n).2=Q
   generalize hB b (hv c n).n=P
   generalize hv c n=h
   intro s1 s2 s3 l inner lt
   exact ao.go [.call (.val<|ak h.e) [bk h.n,ot<|f++av h.o],.call (.val<|.tuple (av P.1)) [bk P.2],.call (.val<|.tuple (av Q.1)) [bk Q.2],.call (.val<|.bool ae) [],.call (.val .none) [bk J.2,ot<|[]++av J.1],.bi 0 (.val<|.tuple (av J.1)),.bw 0 (.val .none) [bk J.2,ot ((f++av h.o)++[aM<|.b9 h.e P.1 J.1 ae]),ot<|av J.1]] λk hk z=>an (s1 k hk) (an (s2 k hk)<|an (s3 k hk) (an (y k<|h9 hN hk)<|an (inner k hk) (an (pK lt)<|an (z4 (r:=bk J.2) (r3:=ot<|av J.1) (aM<|.b9 h.e P.1 J.1 ae) l) z)))
  |false=>
   obtain rfl:=ho rfl
   revert s1 s2 l inner lt
   show _->_->_->ao (N+1) 36 [bk (hB b (hv c n).n).2,_] _ _ [bk (h1 (.b9 c' b' [] ag) (hB b (hv c n).n).2).2,ot<|[]++av (h1 (.b9 c' b' [] ag) (hB b (hv c n).n).2).1]->(av (h1 (.b9 c' b' [] ag) (hB b (hv c n).n).2).1).length<=100000->
    ao (N+2) 36 _ _ _ [bk (h1 (.b9 c' b' [] ag) (hB b (hv c n).n).2).2,ot<|(f++av (hv c n).o)++[aM<|.b9 (hv c n).e (hB b (hv c n).n).1 (h1 (.b9 c' b' [] ag) (hB b (hv c n).n).2).1 ae]]
   generalize h1 (.b9 c' b' [] ag) (hB b (hv c n).n).2=J
   generalize hB b (hv c n).n=P
   generalize hv c n=h
   intro s1 s2 l inner lt
   exact ao.go [.call (.val<|ak h.e) [bk h.n,ot<|f++av h.o],.call (.val<|.tuple (av P.1)) [bk P.2],.call (.val<|.bool ae) [],.call (.val .none) [bk J.2,ot<|[]++av J.1],.bi 0 (.val<|.tuple (av J.1)),.bw 0 (.val .none) [bk J.2,ot ((f++av h.o)++[aM<|.b9 h.e P.1 J.1 ae]),ot<|av J.1]] λk hk z=>an (s1 k hk) (an (s2 k hk)<|an (y k<|h9 hN hk) (an (inner k hk)<|an (pK lt) (an (z4 (r:=bk J.2) (r3:=ot<|av J.1) (aM<|.b9 h.e P.1 J.1 ae) l) z)))
 |false=>
  have y:=RE FO (aj g aa) hy
  have s4:=(B' (hB o (hB b (hv c n).n).2).2<|aj (bK (aj (aW _ _)<|bY _ _) _) c3).s1
  rw[show h1 (.dH c b c' b' o q) n=((hv c n).o++[.dH (hv c n).e (hB b (hv c n).n).1 c' (hB b' (hB o (hB b (hv c n).n).2).2).1 (hB o (hB b (hv c n).n).2).1 q],(hB b' (hB o (hB b (hv c n).n).2).2).2) from br<|cz.mp hy]
  show ao (N+2) 36 _ _ _ [bk (hB b' (hB o (hB b (hv c n).n).2).2).2,ot<|f++av ((hv c n).o++[.dH (hv c n).e (hB b (hv c n).n).1 c' (hB b' (hB o (hB b (hv c n).n).2).2).1 (hB o (hB b (hv c n).n).2).1 q])]
  rw[iD]
  cases q with
  |true=>
   revert s1 s2 s3 s4 l
   generalize hB b' (hB o (hB b (hv c n).n).2).2=J
   generalize hB o (hB b (hv c n).n).2=Q
   generalize hB b (hv c n).n=P
   generalize hv c n=h
   intro s1 s2 s3 l s4
   exact ao.go [.call (.val<|ak h.e) [bk h.n,ot<|f++av h.o],.call (.val<|.tuple (av P.1)) [bk P.2],.call (.val<|.tuple (av Q.1)) [bk Q.2],.call (.val<|.bool ag) [],.call (.val<|.tuple (av J.1)) [bk J.2],.bw 0 (.val .none) [bk J.2,ot<|(f++av h.o)++[aM<|.dH h.e P.1 c' J.1 Q.1 ae]]] λk hk z=>an (s1 k hk) (an (s2 k hk)<|an (s3 k hk) (an (y k<|h9 hN hk)<|an (s4 k hk) (an (app_1 (r:=bk J.2) (aM<|.dH h.e P.1 c' J.1 Q.1 ae) l) z)))
  |false=>
   obtain rfl:=ho rfl
   revert s1 s2 s4 l
   show _->_->_->ao (N+1) 33 [bk (hB b (hv c n).n).2] _ (.val<|.tuple (av (hB b' (hB b (hv c n).n).2).1)) [bk (hB b' (hB b (hv c n).n).2).2]->ao (N+2) 36 _ _ _ [bk (hB b' (hB b (hv c n).n).2).2,ot<|(f++av (hv c n).o)++[aM<|.dH (hv c n).e (hB b (hv c n).n).1 c' (hB b' (hB b (hv c n).n).2).1 [] ag]]
   generalize hB b' (hB b (hv c n).n).2=J
   generalize hB b (hv c n).n=P
   generalize hv c n=h
   intro s1 s2 l s4
   exact ao.go [.call (.val<|ak h.e) [bk h.n,ot<|f++av h.o],.call (.val<|.tuple (av P.1)) [bk P.2],.call (.val<|.bool ag) [],.call (.val<|.tuple (av J.1)) [bk J.2],.bw 0 (.val .none) [bk J.2,ot<|(f++av h.o)++[aM<|.dH h.e P.1 c' J.1 [] ag]]] λk hk z=>an (s1 k hk) (an (s2 k hk)<|an (y k<|h9 hN hk) (an (s4 k hk)<|an (app_1 (r:=bk J.2) (aM<|.dH h.e P.1 c' J.1 [] ag) l) z))
end
section
variable{N n n1 n2 m h₀:ai}{f:af V}{c e w a:E}{b o x y T:af S}{P Q:af S×ai}{h h':H}
theorem rT(hN:9<=N){j k m:ai}(hk:N+j<=k)(hm:kD m 9=ae):m<=k:=aj (bJ hm) (h9 hN hk)
theorem Uj(l1:(av h.o).length<=100000)(l2:(av h.o).length+1<=100000)(s:ao N 15 [bk n,ot []] [ak c] (.val<|ak h.e) [bk h.n,ot<|[]++av h.o]):ao (N+1) 37 [bk n] [ak c] (.val<|.tuple (av h.o++[aM<|gn h.e])) [bk h.n]:=
 ao.go [.call (.val<|ak h.e) [bk h.n,ot<|[]++av h.o],.bi 0 (.val<|.tuple (av h.o)),.bq 0<|.val (.tuple<|av h.o++[aM<|gn h.e])] λk hk z=>an (s k hk) (an (pK l1)<|an (sx (xs:=av h.o) (ys:=[aM<|gn h.e]) l2) z)
theorem L7(A:HV N c)(d:Bd [] n (tE c+1)):ao (N+1) 37 [bk n] [ak c] (.val<|.tuple (av<|(hv c n).o++[gn (hv c n).e])) [bk (hv c n).n]:=by
 rw[uF]
 exact Uj (d.rU<|aj (cg c n).1 (aR _)) (d.y8<|aj (cg c n).1 (aR _)) (A n []<|d.le (aR _))
theorem Ui(hN:9<=N)(y:ao 9 7 [] [ak c] (.val<|.bool ae) [])(t1:ao (N+1) 37 [bk n] [ak c] (.val<|.tuple (av T)) [bk n1])(s2:ao N 33 [bk n1] [.tuple<|av b] (.val<|.tuple (av P.1)) [bk P.2])(l:(av T).length+(av P.1).length<=100000)(l':f.length+1<=100000):
  ao (N+2) 38 [bk n,ot f] [aM<|.cM c b] (.val .none) [bk P.2,ot<|f++[.tuple [.str nc,bO (.bool ae),.tuple<|av T++av P.1]]]:=
 ao.go [.call (.val<|.bool ae) [],.call (.val<|.tuple (av T)) [bk n1],.call (.val<|.tuple (av P.1)) [bk P.2],.bq 0 (.val<|.tuple (av T++av P.1)),.bw 0 (.val .none) [bk P.2,ot<|f++[.tuple [.str nc,bO (.bool ae),.tuple<|av T++av P.1]]]] λk hk z=>an (y k<|h9 hN hk) (an (t1 k hk)<|an (s2 k<|aj (aW N 1) hk) (an (sx l)<|an (app_1 (r:=bk P.2) (.tuple [.str nc,bO (.bool ae),.tuple<|av T++av P.1]) l') z))
theorem Uh(hN:9<=N)(y:ao 9 7 [] [ak c] (.val<|.bool ag) [])(s2:ao N 33 [bk n] [.tuple<|av b] (.val<|.tuple (av P.1)) [bk P.2])(l':f.length+1<=100000):ao (N+1) 38 [bk n,ot f] [aM<|.cM c b] (.val .none) [bk P.2,ot<|f++[aM<|.cM c P.1]]:=
 ao.go [.call (.val<|.bool ag) [],.call (.val<|.tuple (av P.1)) [bk P.2],.bw 0 (.val .none) [bk P.2,ot<|f++[aM<|.cM c P.1]]] λk hk z=>an (y k<|h9 (j:=0) hN hk) (an (s2 k hk)<|an (app_1 (r:=bk P.2) (aM<|.cM c P.1) l') z)
theorem acg(A:HV N c)(B:lx N b)(oc:aL ae h₀ c)(ob:bR ae h₀ b)(g:h₀<=9000)(d:Bd f n (tE c+(tB b+1)))(hN:9<=N):ao (N+2) 38 [bk n,ot f] [aM<|.cM c b] (.val .none) [bk (h1 (.cM c b) n).2,ot<|f++av (h1 (.cM c b) n).1]:=by
 cases hy:Y c with
 |true=>
  have d1:=d.wi (cg c n) (aF _)
  rw[show h1 (.cM c b) n=([Ew (hv c n) (hB b (hv c n).n).1],(hB b (hv c n).n).2) from a9 hy]
  show ao (N+2) 38 _ _ _ [bk (hB b (hv c n).n).2,ot<|f++[.tuple [.str nc,bO (.bool ae),.tuple<|av (((hv c n).o++[gn (hv c n).e])++(hB b (hv c n).n).1)]]]
  rw[uF]
  exact Ui hN (yy oc (s0 g) hy) (L7 A<|d.nil.le (bK l1 _)) (B _ (aj (bK (aR _) _) d1.2))
   (aj (bA<|eX.symm.trans (ay DT (uF _ _).symm))<|(d.nil.rU (o:=((hv c n).o++[gn (hv c n).e])++(hB b (hv c n).n).1)<|aj (bA eX) (aj (cQ (i6 (cg c n).1) (jb ob _).1)<|bA (iW _ 1 _)))) (d.f1 p1)
 |false=>
  rw[show h1 (.cM c b) n=([.cM c (hB b n).1],(hB b n).2) from br<|cz.mp hy]
  exact(Uh hN (yy oc (s0 g) hy) (B n<|aj (bK (aj (aR _)<|bY _ (tE c)) n) d.2)<|d.f1 p1).s1
def uH(t:aq)(T b:af S):V:=.tuple [.str nc,bO (.bool ae),.tuple<|[aM (eA (.var t) T),aM<|cB t (.lit<|.bool ae)]++av b]
theorem Uu(hN:9<=N)(nt:n+1<=12000)(y:ao 9 7 [] [ak c] (.val<|.bool ae) [])(t1:ao (N+1) 37 [bk<|n+1] [ak c] (.val<|.tuple (av T)) [bk n1])(s2:ao N 33 [bk n1] [.tuple<|av b] (.val<|.tuple (av P.1)) [bk P.2])(l:2+(av P.1).length<=100000)(l1:f.length+1<=100000)(l2:(f++[ei (aG<|n+1)<|bO (.bool ag)]).length+1<=100000):
  ao (N+2) 38 [bk n,ot f] [aM<|.c9 b c] (.val .none) [bk P.2,ot<|(f++[ei (aG<|n+1)<|bO (.bool ag)])++[uH (aG<|n+1) T P.1]]:=
 ao.go [.call (.val<|.bool ae) [],.call (.val<|cy (aG<|n+1)) [bk<|n+1],.call (.val .none) [ot<|f++[ei (aG<|n+1)<|bO (.bool ag)]],.call (.val<|.tuple (av T)) [bk n1],.call (.val<|.tuple (av P.1)) [bk P.2],
   .bq 0 (.val<|.tuple ([aM (eA (.var<|aG (n+1)) T),aM<|cB (aG<|n+1) (.lit<|.bool ae)]++av P.1)),.bw 0 (.val .none) [bk P.2,ot<|(f++[ei (aG<|n+1)<|bO (.bool ag)])++[uH (aG<|n+1) T P.1]]] (λk hk z=>an (y k<|h9 hN hk)<|an (nU nt k<|rT hN hk rfl) (an (nT (t:=aG<|n+1) (v:=bO<|.bool ag) l1 k<|rT hN hk rfl)<|an (t1 k hk) (an (s2 k<|aj (aW N 1) hk)
   (an (sx (xs:=[aM (eA (.var<|aG (n+1)) T),aM<|cB (aG<|n+1) (.lit<|.bool ae)]) (ys:=av P.1) l)<|an (app_1 (r:=bk P.2) (uH (aG<|n+1) T P.1) l2) z))))
theorem Ut(hN:9<=N)(y:ao 9 7 [] [ak c] (.val<|.bool ag) [])(s2:ao N 33 [bk n] [.tuple<|av b] (.val<|.tuple (av P.1)) [bk P.2])(l':f.length+1<=100000):ao (N+1) 38 [bk n,ot f] [aM<|.c9 b c] (.val .none) [bk P.2,ot<|f++[aM<|.c9 P.1 c]]:=
 ao.go [.call (.val<|.bool ag) [],.call (.val<|.tuple (av P.1)) [bk P.2],.bw 0 (.val .none) [bk P.2,ot<|f++[aM<|.c9 P.1 c]]] λk hk z=>an (y k<|h9 (j:=0) hN hk) (an (s2 k hk)<|an (app_1 (r:=bk P.2) (aM<|.c9 P.1 c) l') z)
theorem ack(A:HV N c)(B:lx N b)(oc:aL ae h₀ c)(ob:bR ae h₀ b)(g:h₀<=9000)(d:Bd f n (tE c+(tB b+3)))(hN:9<=N):ao (N+2) 38 [bk n,ot f] [aM<|.c9 b c] (.val .none) [bk (h1 (.c9 b c) n).2,ot<|f++av (h1 (.c9 b c) n).1]:=by
 cases hy:Y c with
 |true=>
  have d0:Bd f (n+1) (tE c+(tB b+2)):=d.up (aF _)
  have d1:=d0.wi (cg c<|n+1) (aF _)
  rw[show h1 (.c9 b c) n=(CQ (aG<|n+1) (hv c<|n+1) (hB b (hv c<|n+1).n).1,(hB b (hv c<|n+1).n).2) from a9 hy]
  show ao (N+2) 38 _ _ _ [bk (hB b (hv c<|n+1).n).2,ot<|f++[aM (cB (aG<|n+1)<|.lit (.bool ag)),uH (aG<|n+1) ((hv c<|n+1).o++[gn (hv c<|n+1).e]) (hB b (hv c<|n+1).n).1]]
  rw[show f++[aM (cB (aG<|n+1)<|.lit (.bool ag)),uH (aG<|n+1) ((hv c<|n+1).o++[gn (hv c<|n+1).e]) (hB b (hv c<|n+1).n).1]=(f++[ei (aG<|n+1)<|bO (.bool ag)])++[uH (aG<|n+1) ((hv c<|n+1).o++[gn (hv c<|n+1).e]) (hB b (hv c<|n+1).n).1] from(oz f [ei (aG<|n+1)<|bO (.bool ag)] [uH (aG<|n+1) ((hv c<|n+1).o++[gn (hv c<|n+1).e]) (hB b (hv c<|n+1).n).1]).symm]
  exact Uu hN (d.n1 p1) (yy oc (s0 g) hy) (L7 A<|d0.nil.le (bK l1 _)) (B _ (aj (bK (aW _ 2) _) d1.2))
   (aj (bA<|l7 2 _)<|aj (dP (aj (bA<|qJ _) (jb ob _).1) 2) (aj (bY _ _)<|aj d1.2 aa)) (d.f1 p1) (Gu<|aj (aj (bK (aj (bY 2<|tB b+1)<|bY _ (tE c)) _) d.1) aa)
 |false=>
  rw[show h1 (.c9 b c) n=([.c9 (hB b n).1 c],(hB b n).2) from br<|cz.mp hy]
  exact(Ut hN (yy oc (s0 g) hy) (B n<|aj (bK (aj (aW _ 3)<|bY _ (tE c)) n) d.2)<|d.f1 p1).s1
theorem Uq(hN:9<=N)(s1:ao N 15 [bk n,ot f] [ak w] (.val<|ak h.e) [bk h.n,ot<|f++av h.o])(s2:ao N 33 [bk h.n] [.tuple<|av b] (.val<|.tuple (av P.1)) [bk P.2])(l:(f++av h.o).length+1<=100000):
  ao (N+2) 38 [bk n,ot f] [aM<|.fe w b] (.val .none) [bk P.2,ot<|(f++av h.o)++[aM<|.fe h.e P.1]]:=
 have p:ao (N+1) 39 [bk n,ot f] [aM<|.fe w b] (.val .none) [bk P.2,ot<|(f++av h.o)++[aM<|.fe h.e P.1]]:=
  ao.go [.call (.val .none) [],.call (.val .none) [],.call (.val<|ak h.e) [bk h.n,ot<|f++av h.o],.call (.val<|.tuple (av P.1)) [bk P.2],.bw 0 (.val .none) [bk P.2,ot<|(f++av h.o)++[aM<|.fe h.e P.1]]] (λk hk z=>an (BC (v:=.none) (w:=Mg) iY k<|rT (j:=0) hN hk rfl)<|an (BC (v:=cy ew) (w:=Mf) (jL (c:=ae) (h:=0) (e:=.var ew) (.var .c) aa) k<|rT (j:=0) hN hk rfl) (an (s1 k hk)<|an (s2 k hk)
    (an (app_1 (r:=bk P.2) (aM<|.fe h.e P.1) l) z)))
 ao.go [.call (.val .none) [bk P.2,ot<|(f++av h.o)++[aM<|.fe h.e P.1]]] λk hk z=>an (p k hk) z
theorem acj(A:HV N w)(B:lx N b)(d:Bd f n (tE w+(tB b+1)))(hN:9<=N):ao (N+2) 38 [bk n,ot f] [aM<|.fe w b] (.val .none) [bk (h1 (.fe w b) n).2,ot<|f++av (h1 (.fe w b) n).1]:=by
 have d1:=d.wi (cg w n) (aF _)
 show ao (N+2) 38 _ _ _ [bk (hB b (hv w n).n).2,ot<|f++av ((hv w n).o++[S.fe (hv w n).e (hB b (hv w n).n).1])]
 rw[iD]
 exact Uq hN (A n f<|d.le (aW _ _)) (B _ (aj (bK (aR _) _) d1.2)) (d1.f1 l1)
theorem acK:ao 7 33 [bk n] [.tuple [fY ae]] (.val<|.tuple [fY ae]) [bk n]:=
 ao.go [.call (.val<|.bool ag) []] λk hk z=>an (L6 (h:=0) (x:=.fk ae) .fk aa k<|aj aa hk) z
theorem Ul(hN:9<=N)(s2:ao N 33 [bk n] [.tuple<|av x] (.val<|.tuple (av P.1)) [bk P.2])(s3:ao N 33 [bk P.2] [.tuple<|av y] (.val<|.tuple (av Q.1)) [bk Q.2])(s1:ao N 15 [bk Q.2,ot f] [ak c] (.val<|ak h.e) [bk h.n,ot<|f++av h.o])(l:(f++av h.o).length+1<=100000):
  ao (N+1) 38 [bk n,ot f] [aM<|.sw c x y] (.val .none) [bk h.n,ot<|(f++av h.o)++[aM<|.sw h.e P.1 Q.1]]:=
 have rf:∀d,ao 6 9 [] [bO d,.str Fd] (.val .none) []:=λd=>BC (oB d)
 ao.go [.call (.val .none) [],.call (.val .none) [],.call (.val .none) [],.call (.val<|.tuple (av P.1)) [bk P.2],.call (.val<|.tuple (av Q.1)) [bk Q.2],.call (.val<|.tuple [fY ae]) [bk Q.2],.call (.val<|ak h.e) [bk h.n,ot<|f++av h.o],.bw 0 (.val .none) [bk h.n,ot<|(f++av h.o)++[aM<|.sw h.e P.1 Q.1]]] λk hk z=>an (rf (.int 1) k<|rT (j:=0) hN hk rfl) (an (BC (w:=Fd) iY k<|rT (j:=0) hN hk rfl)<|an (rf (.int 2) k<|rT (j:=0) hN hk rfl) (an (s2 k hk)<|an (s3 k hk) (an (acK (n:=Q.2) k<|rT (j:=0) hN hk rfl)<|an (s1 k hk) (an (app_1 (r:=bk h.n) (aM<|.sw h.e P.1 Q.1) l) z))))
theorem ach(A:HV N c)(X:lx N x)(Yy:lx N y)(ox:bR ae h₀ x)(oy:bR ae h₀ y)(d:Bd f n (tB x+(tB y+(tE c+4))))(hN:9<=N):ao (N+1) 38 [bk n,ot f] [aM<|.sw c x y] (.val .none) [bk (h1 (.sw c x y) n).2,ot<|f++av (h1 (.sw c x y) n).1]:=by
 have c1:=aj (ch (jb ox n).2<|aF _) d.2
 have c2:=aj (ch (jb oy (hB x n).2).2<|aF _) c1
 have d2:Bd f (hB y (hB x n).2).2 (tE c+4):=⟨aj (bK (aj (bY _ _)<|bY _ _) _) d.1,c2⟩
 show ao (N+1) 38 _ _ _ [bk (hv c (hB y (hB x n).2).2).n,ot<|f++av ((hv c (hB y (hB x n).2).2).o++[S.sw (hv c (hB y (hB x n).2).2).e (hB x n).1 (hB y (hB x n).2).1])]
 rw[iD]
 exact Ul hN (X n<|aj (bK (aW _ _) n) d.2) (Yy _ (aj (bK (aW _ _) _) c1)) (A _ f<|d2.le (aW _ 4)) (d2.f2 (o:=[]) (cg c _)<|bK aa _)
theorem Us(s:ao N 15 [bk n,ot f] [ak e] (.val<|ak h.e) [bk h.n,ot<|f++av h.o])(l:(f++av h.o).length+1<=100000):ao (N+1) 34 [bk n,ot f] [aM<|.dT e] (.val .none) [bk h.n,ot<|(f++av h.o)++[aM<|.dT h.e]]:=
 ao.go [.call (.val<|ak h.e) [bk h.n,ot<|f++av h.o],.bw 0 (.val .none) [bk h.n,ot<|(f++av h.o)++[aM<|.dT h.e]]] λk hk z=>an (s k hk) (an (app_1 (r:=bk h.n) (aM<|.dT h.e) l) z)
theorem Ur{f1:af V}(s:ao N 15 [bk n,ot f] [ak e] (.val<|ak h.e) [bk h.n,ot<|f++av h.o])(l:(f++av h.o).length+1<=100000)(s':ao N 15 [bk h.n,ot<|(f++av h.o)++[aM<|.dT h.e]] [ak a] (.val<|ak h'.e) [bk h'.n,ot f1])(l':f1.length+1<=100000):ao (N+1) 34 [bk n,ot f] [aM<|.ig e a] (.val .none) [bk h'.n,ot<|f1++[aM<|.dT h'.e]]:=
 ao.go [.call (.val<|ak h.e) [bk h.n,ot<|f++av h.o],.bw 0 (.val .none) [bk h.n,ot<|(f++av h.o)++[aM<|.dT h.e]],.call (.val<|ak h'.e) [bk h'.n,ot f1],.bw 0 (.val .none) [bk h'.n,ot<|f1++[aM<|.dT h'.e]]] λk hk z=>an (s k hk) (an (app_1 (r:=bk h.n) (aM<|.dT h.e) l)<|an (s' k hk) (an (app_1 (r:=bk h'.n) (aM<|.dT h'.e) l') z))
theorem Um(s:ao N 15 [bk n,ot f] [ak e] (.val<|ak h.e) [bk h.n,ot<|f++av h.o])(l:(f++av h.o).length+1<=100000):ao (N+1) 34 [bk n,ot f] [aM<|.ret e] (.val .none) [bk h.n,ot<|(f++av h.o)++[aM<|.ret h.e]]:=
 ao.go [.call (.val<|ak h.e) [bk h.n,ot<|f++av h.o],.bw 0 (.val .none) [bk h.n,ot<|(f++av h.o)++[aM<|.ret h.e]]] λk hk z=>an (s k hk) (an (app_1 (r:=bk h.n) (aM<|.ret h.e) l) z)
theorem Uv(s:ao N 33 [bk n] [.tuple<|av b] (.val<|.tuple (av P.1)) [bk P.2])(l:f.length+1<=100000):ao (N+1) 34 [bk n,ot f] [aM<|.gO b] (.val .none) [bk P.2,ot<|f++[aM<|.gO P.1]]:=
 ao.go [.call (.val<|.tuple (av P.1)) [bk P.2],.bw 0 (.val .none) [bk P.2,ot<|f++[aM<|.gO P.1]]] λk hk z=>an (s k hk) (an (app_1 (r:=bk P.2) (aM<|.gO P.1) l) z)
theorem Uk(s:ao N 33 [bk n] [.tuple<|av y] (.val<|.tuple (av P.1)) [bk P.2])(s2:ao N 33 [bk P.2] [.tuple<|av x] (.val<|.tuple (av Q.1)) [bk Q.2])(l:f.length+1<=100000):ao (N+1) 34 [bk n,ot f] [aM<|.tr x y] (.val .none) [bk Q.2,ot<|f++[aM<|.tr Q.1 P.1]]:=
 ao.go [.call (.val<|.tuple (av P.1)) [bk P.2],.call (.val<|.tuple (av Q.1)) [bk Q.2],.bw 0 (.val .none) [bk Q.2,ot (f++[aM<|.tr Q.1 P.1]),.ah []]] λk hk z=>an (s k hk) (an (s2 k hk)<|an (z4 (r:=bk Q.2) (r3:=.ah []) (aM<|.tr Q.1 P.1) l) z)
theorem s7{v:V}{n':ai}{f':af V}{g:ai}{ds:af V}(h:ao N g [bk n,ot f] ds (.val .none) [bk n',ot f'])
  (e:∀k,dK (b5 a8 k) (dQ a8) Ra [bk n,ot f] (slots [ae,ae,ag] 0 [v]++eW 4 aw) [.call (.val .none) [bk n',ot f']] (λfl rs _ _=>a6 2 fl rs=ab (.val .none,[bk n',ot f']))=(b5 a8 k g [bk n,ot f] ds (.val .none) [bk n',ot f']/\ab (MV.val .none,[bk n',ot f'])=ab (.val .none,[bk n',ot f']))):ao (N+1) 34 [bk n,ot f] [v] (.val .none) [bk n',ot f']:=
 ao.go [.call (.val .none) [bk n',ot f']] (λk hk z=>an (h k hk) z) (e:=e)
end
section
noncomputable def hoB:af ST:=[.ite (.call 7 [.var 3]) [.expr<|.call 34 [.var 0,.var 2,.var 3]] [.expr<|.bw .append (.var 2) [.var 3]]]
def O6(k:ai)(x:V)(rs:Rs)(vs:Vs)(os:Os)(K:Fl->Rs->Vs->Os->Prop):Prop:=b4 (hO (.name 3) x vs) os λvs os=>dK (b5 a8 k) (dQ a8) hoB rs vs os K
def Lo(k:ai)(b:af S):Prop:=∀(n:ai)(f:af V)(a w:aD MV),Bd f n (tB b)->∃(w':aD MV)(os:Os),je (O6 k) (av b) [bk n,ot f] [ab (.ref 0),a,ab (.ref 1),w] os λfl rs vs _=>fl=.nx/\rs=[bk (hB b n).2,ot<|f++av (hB b n).1]/\vs=[ab (.ref 0),a,ab (.ref 1),w']
end
section
variable{N k n h₀:ai}{b r:af S}{x:S}{f:af V}
theorem Lo.nil:Lo k []:=λn f a w d=>⟨w,[],rfl,by rw[show hB [] n=([],n) from rfl];exact ay (λl=>[bk n,ot l]) (fy f).symm,rfl⟩
theorem Lo.step(o:fH ae h₀ x)(g:h₀<=5000)(hk:N<=k)(hN:9<=N)(h:RM N x)(hr:Lo k r):Lo k (x::r):=λn f a w d=>by
 have hs:=jb (.cons o .nil λ_=>bQ 3) n
 have w1:(h1 x n).1.length<=tS x:=aj (bA<|ay DT (fy _).symm) hs.1
 have d1:Bd (f++av (h1 x n).1) (h1 x n).2 (tB r):=d.wi (h:=⟨.y0,(h1 x n).2,(h1 x n).1⟩) ⟨w1,hs.2⟩ (aF _)
 have e:f++av (hB (x::r) n).1=(f++av (h1 x n).1)++av (hB r (h1 x n).2).1:=uG f _ _
 have y:=L6 o g k (aj aa<|aj hN hk)
 rw[e]
 cases q:YS x with
 |true=>
  rw[q] at y
  have s:=h n f (d.le<|aW _ _) q k hk
  exact(hr _ _ a (ab<|.val (aM x)) d1).imp λw'=>.imp' ([.call (.val<|.bool ae) [],.call (.val .none) [bk (h1 x n).2,ot<|f++av (h1 x n).1]]++·) λos z=>cR (an y<|an s z) (by kernel_rfl)
 |false=>
  rw[q] at y
  have e1:=Pw o q n
  have l:=d.f1 (t:=tS x+tB r) (aj (show 1<=tS x from by
   have:=w1
   rw[e1] at this
   exact this)<|aW _ _)
  have z:=hr _ _ a (ab<|.val (aM x)) d1
  show ∃(w':aD MV)(os:Os),je (O6 k) (aM x::av r) [bk n,ot f] [ab (.ref 0),a,ab (.ref 1),w] os λfl rs vs _=>fl=.nx/\rs=[bk (hB r (h1 x n).2).2,ot<|(f++av (h1 x n).1)++av (hB r (h1 x n).2).1]/\vs=[ab (.ref 0),a,ab (.ref 1),w']
  rw[e1] at z ⊢
  exact z.imp λw'=>.imp' ([.call (.val<|.bool ag) [],.bw 0 (.val .none) [bk n,ot<|f++[aM x]]]++·) λos z=>cR (an y<|an (app_1 (r:=bk n) (aM x) l) z) (by kernel_rfl)
theorem lx.of(o:bR ae h₀ b)(h:∀k,N<=k->Lo k b):lx (N+1) b:=λn q=>
 have d:Bd [] n (tB b):=⟨aj (bA<|kC _) (aj (bY _ n)<|aj q aa),q⟩
 ao.ex rfl rfl rfl λk hk=>(h k hk n [] (ab<|.val (.tuple<|av b)) aw d).elim λw' z=>
  ⟨[.lp .nx [bk (hB b n).2,ot<|[]++av (hB b n).1] [ab (.ref 0),ab (.val<|.tuple (av b)),ab (.ref 1),w'],.bi 0<|.val (.tuple<|av (hB b n).1)],cR (an z<|an (pK<|d.rU (jb o n).1) (rfl:ab (MV.val (.tuple<|av (hB b n).1),[bk (hB b n).2])=ab (MV.val (.tuple<|av (hB b n).1),[bk (hB b n).2])))<|by kernel_rfl⟩
end
theorem Lo.all{h:ai}{b:af S}(o:bR ae h b):h<=5000->∀k,6*h+20<=k->Lo k b:=by
 have N9:∀h,9<=6*h+21:=λh=>aj aa (bY 21 _)
 have A:∀{h h':ai}{e:E},aL ae h' e->h'<=h->h<=5000->HV (6*h+21) e:=λo l g=>(HV.all o<|aj l (aj g aa)).aU (cQ (lA 6 l) aa)
 have B:∀{h:ai}{b:af S},bR ae h b->(h<=5000->∀k,6*h+20<=k->Lo k b)->h<=5000->lx (6*h+21) b:=λo ih g=>lx.of o (ih g)
 have up:∀{h m n:ai}{x:S}{f:af V}{r:V}{cE:Rs},m<=5->ao (6*h+21+m) 34 [bk n,ot f] [aM x] (.val r) cE->ao (6*(h+1)+20) 34 [bk n,ot f] [aM x] (.val r) cE:=λhm H=>H.aU (aj (bK hm _)<|bA (iW _ 20 6))
 have g1:∀{h:ai},h+1<=5000->h<=5000:=eL
 have g9:∀{h:ai},h+1<=5000->h<=9000:=λg=>aj (eL g) aa
 refine bR.rec (c:=ae) (motive_1:=λh x _=>h<=5000->RM (6*h+20) x) (motive_2:=λh b _=>h<=5000->∀k,6*h+20<=k->Lo k b) ?_ ?_ ?_ ?_ ?_ ?_ ?_ ?_ ?_ ?_ ?_ ?_ ?_ ?_ ?_ ?_ o
 ·exactλ{h e} oe g n f d hy=>up (m:=4) aa (s7 (g:=35) (XO oe (g9 g) (λo l=>A o l<|g1 g) (N9 h) hy d) λk=>by kernel_rfl)
 ·intro h e oe g n f d hy
  show ao (6*(h+1)+20) 34 _ _ _ [_,ot<|f++av ((hv e n).o++[S.dT (hv e n).e])]
  rw[iD]
  exact up (m:=1) aa (Us (A oe (aF _) (g1 g) n f<|d.le (aR _))<|d.f2 (o:=[]) (cg e n) (aF _))
 ·intro h a b oa ob g n f d hy
  have d1:Bd (f++av ((hv a n).o++[S.dT (hv a n).e])) (hv a n).n (tE b+1):=d.wi (h:=⟨.y0,(hv a n).n,(hv a n).o++[S.dT (hv a n).e]⟩) ⟨i6 (cg a n).1,aj (cg a n).2<|aR _⟩ (aF _)
  rw[show h1 (.ig a b) n=(((hv a n).o++[.dT (hv a n).e])++((hv b (hv a n).n).o++[.dT (hv b (hv a n).n).e]),(hv b (hv a n).n).n) from a9 hy]
  show ao (6*(h+1)+20) 34 _ _ _ [_,ot<|f++av (((hv a n).o++[S.dT (hv a n).e])++((hv b (hv a n).n).o++[S.dT (hv b (hv a n).n).e]))]
  have s2:=A ob (aF _) (g1 g) _ _ (d1.le<|aR _)
  have l2:=d1.f2 (o:=[]) (cg b (hv a n).n) (aF _)
  rw[uG,iD<|f++av ((hv a n).o++[S.dT (hv a n).e])]
  rw[iD f (hv a n).o] at s2 l2 ⊢
  exact up (m:=1) aa (Ur (A oa (aF _) (g1 g) n f<|d.le (aj (aR _)<|aW _ _)) (d.f2 (o:=[]) (cg a n)<|aW _ _) s2 l2)
 ·exactλg n f d hy=>nomatch hy
 ·exactλg n f d hy=>nomatch hy
 ·intro h e oe g n f d hy
  show ao (6*(h+1)+20) 34 _ _ _ [_,ot<|f++av ((hv e n).o++[S.ret (hv e n).e])]
  rw[iD]
  exact up (m:=1) aa (Um (A oe (aF _) (g1 g) n f<|d.le (aR _))<|d.f2 (o:=[]) (cg e n) (aF _))
 ·exactλ{h b} ob ib g n f d hy=>up (m:=1) aa (Uv (B ob ib (g1 g) n<|aj (aR _) d.2)<|d.f1 l1)
 ·exactλ{h e b o k} oe ob oo ho ib io g n f d hy=>up (m:=2) aa (s7 (g:=36) (O1 (A oe (aF _)<|g1 g) (B ob ib<|g1 g) (B oo io<|g1 g) ob ho d<|N9 h) λk=>by kernel_rfl)
 ·exactλ{h e b e' b' o k} oe ob ey fX oo ho ib cV io g n f d hy=>up (m:=3) aa (s7 (g:=36) (aci (A oe (aF _)<|g1 g) (B ob ib<|g1 g) (A ey (aF _)<|g1 g) (B fX cV<|g1 g) (B oo io<|g1 g) ob ey fX oo ho (g9 g) d<|N9 h) λk=>by kernel_rfl)
 ·exactλ{h e b} oe ob ib g n f d hy=>up (m:=3) aa (s7 (g:=38) (acg (A oe (aF _)<|g1 g) (B ob ib<|g1 g) oe ob (g9 g) d<|N9 h) λk=>by kernel_rfl)
 ·exactλ{h e b} oe ob ib g n f d hy=>up (m:=3) aa (s7 (g:=38) (ack (A oe (aF _)<|g1 g) (B ob ib<|g1 g) oe ob (g9 g) d<|N9 h) λk=>by kernel_rfl)
 ·exactλ{h sa sb x y b} oe ob ib g n f d hy=>up (m:=3) aa (s7 (g:=38) (acj (A oe (aF _)<|g1 g) (B ob ib<|g1 g) d<|N9 h) λk=>by kernel_rfl)
 ·exactλ{h e x y} oe ox oy ix iy g n f d hy=>up (m:=2) aa (s7 (g:=38) (ach (A oe (aF _)<|g1 g) (B ox ix<|g1 g) (B oy iy<|g1 g) ox oy d<|N9 h) λk=>by kernel_rfl)
 ·exactλ{h b y} ob oy ib iy g n f d hy=>up (m:=1) aa (Uk (B oy iy (g1 g) n<|aj (bK (aW _ _) n) d.2) (B ob ib (g1 g) _ (aj (ch (jb oy n).2<|aR _) d.2))<|d.f1 p1)
 ·exactλg k hk=>Lo.nil
 ·exactλ{h x r} ox or _ ix ir g k hk=>Lo.step ox g hk (aj aa<|bY 20 _) (ix g) (ir g k hk)
theorem XM{h:ai}{b:af S}(o:bR ae h b)(g:h<=5000)(hb:tB b<=12000):ao (6*h+22) 32 [] [.tuple<|av b] (.val<|.tuple (av (hB b 0).1)) []:=
 have s:=lx.of o (Lo.all o g) 0 (aj (bA<|kC _) hb)
 ao.go [.call (.val<|.tuple (av (hB b 0).1)) [bk (hB b 0).2]] λk hk z=>an (s k hk) z
mutual
noncomputable def Lb:V->Prop
 | .tuple xs=>xs.length<=90000/\Ab xs| .str s=>s.length<=90000|_=>True
noncomputable def Ab:af V->Prop
 |[]=>True|x::xs=>Lb x/\Ab xs
end
structure Tr(A c d:ai)(v:V):Prop where
 s:v.showable=ae
 l:v.leavesShort 13=ae
 w:v.weight<=A+c
 d:v.depth<=d
 b:Lb v
structure TL(A c d:ai)(xs:af V):Prop where
 s:air xs=ae
 l:ais 13 xs=ae
 w:DD xs<=A+c
 d:mT xs<=d
 b:Ab xs
section
variable{A A1 A2 c c1 c2 d d' n:ai}{v x:V}{xs:af V}{s:aq}
theorem Tr.up(t:Tr A c d v)(h:d<=d'):Tr A c d' v:=⟨t.s,t.l,t.w,aj t.d h,t.b⟩
theorem TL.nil:TL 0 0 d []:=⟨rfl,rfl,aF 0,bQ d,trivial⟩
theorem TL.cons(u:TL A2 c2 d xs)(t:Tr A1 c1 d' x)(h:d'<=d):TL (A1+A2) (c1+1+c2) d (x::xs):=
 ⟨dc.mpr ⟨t.s,u.s⟩,dc.mpr ⟨t.l,u.l⟩,aj (cQ (bG t.w) u.w) (bA<|show(A1+(c1+1))+(A2+c2)=A1+A2+(c1+1+c2) from Jn A1 (c1+1) A2 c2),xK.mpr ⟨aj t.d h,u.d⟩,t.b,u.b⟩
theorem TL.aC(u:TL A c d xs)(h:xs.length<=90000):Tr A c (d+1) (.tuple xs):=⟨u.s,u.l,u.w,bG u.d,h,u.b⟩
theorem TL.ad(u:TL A2 c2 d xs)(t:Tr A1 c1 d x):TL (A1+A2) (c1+1+c2) d (x::xs):=u.cons t (aF d)
theorem TL.l0(u:TL A c2 d xs)(t:Tr 0 c1 0 x):TL A (c1+1+c2) d (x::xs):=(kC A)▸u.cons t (bQ d)
theorem TL.l1(u:TL A c2 d xs)(t:Tr 0 c1 d' x)(h:d'<=d):TL A (c1+1+c2) d (x::xs):=(kC A)▸u.cons t h
theorem TL.bh(t:Tr A c d v):TL A (c+1) d [v]:=TL.nil.ad t
theorem Tr.a6{t k:ai}(u:Tr A c d v)(hA:A<=40*t)(hc:kD c (40*k)=ae)(hd:d<=d'):Tr (40*(t+k)) 0 d' v:=
 ⟨u.s,u.l,aj u.w (aj (cQ hA<|bJ hc)<|bA (pw 40 t k).symm),aj u.d hd,u.b⟩
theorem Tr.hd(s:aq)(h:((jn s).leavesShort 13&&kD s.length 90000)=ae):Tr 0 s.length 0 (.str s):=have h:=dc.mp h;⟨rfl,h.1,bA (kC _).symm,aF 0,bJ h.2⟩
theorem Tr.none:Tr 0 0 0 .none:=⟨rfl,rfl,aF 0,aF 0,trivial⟩
theorem Tr.bool(b:az):Tr 0 0 0 (.bool b):=⟨rfl,rfl,aF 0,aF 0,trivial⟩
theorem Tr.pv{w:ai}(p:Pv w 0 v)(h:Lb v):Tr 0 w 0 v:=⟨p.s,p.l,aj p.w (bA (kC w).symm),p.d,h⟩
theorem dr.lb(h:dr n v):Lb v:=by
 cases v with
 |tuple _=>exact h.elim|str s=>exact aj h.1 aa|_=>trivial
theorem Tr.HQ(h:dr 0 v):Tr 0 20 0 v:=Tr.pv (h.pv aa) h.lb
theorem Nm.tr{c:az}(h:Nm c s):Tr 0 20 0 (.str s):=Tr.pv (Fw h.ok.1.2 h.ok.2) (aj h.ok.1.2 aa)
theorem rx{c:az}(h:Nm c s):Tr 0 25 1 (cy s):=((TL.nil.l0 h.tr).l0<|Tr.hd pT (by rfl)).aC (bJ rfl)
theorem pL(h:dr 0 v):Tr 0 25 1 (bO v):=((TL.nil.l0<|Tr.HQ h).l0<|Tr.hd tI (by rfl)).aC (bJ rfl)
theorem Bf(t:Tr A 0 d v)(hd:1<=d):Tr A 31 (d+1) (iR v):=
 ((((TL.bh t).l1 (rx (c:=ae) .d) hd).l0<|Tr.hd kc (by rfl)).aC (bJ rfl):Tr A (3+1+(25+1+1)) (d+1) (iR v))
end
theorem lP(h:ai){j:ai}(hj:kD j 4=ae):4*h+2+j<=4*(h+1)+2:=aj (bK (bJ hj) _) (bA<|iW (4*h) 2 4)
section
variable{a b c d:ai}
theorem m1:40*a<=40*a:=aF _
theorem m2:40*a+40*b<=40*(a+b):=bA (pw 40 a b).symm
theorem m3:40*a+(40*b+40*c)<=40*(a+b+c):=bA ((fg _ _ _).symm.trans<|(ay (·+40*c) (pw 40 a b).symm).trans (pw 40 (a+b) c).symm)
end
theorem nA{q:az}{h:ai}{e:E}(o:aL q h e):Tr (40*tE e) 0 (4*h+2) (ak e):=by
 have z:∀h,1<=4*h+2:=λh=>bG (bQ _)
 have u1:∀{h:ai},4*h+2+1<=4*(h+1)+2:=λ{h}=>lP h (j:=1) rfl
 have Le:∀{xs:af V},kD xs.length 90000=ae->xs.length<=90000:=λh=>bJ h
 have l1:∀{h:ai},4*h+2<=4*h+2+1:=λ{h}=>aR _
 have l2:∀{h:ai},4*h+2<=4*h+2+2:=λ{h}=>aW _ 2
 have N:∀(s:aq),((jn s).leavesShort 13&&kD s.length 90000)=ae->Tr 0 s.length 0 (.str s):=Tr.hd
 have nf:Tr 0 7 1 wL:=((TL.nil.l0<|N j8 (by rfl)).l0<|N pU (by rfl)).aC (Le rfl)
 have bf:=Tr.bool ag
 induction o with
 |lit q=>exact Tr.a6 (t:=0) (k:=1) (pL q) (aF 0) rfl (z _)|var q=>exact Tr.a6 (t:=0) (k:=1) (rx q) (aF 0) rfl (z _)|y0=>exact Tr.a6 (t:=0) (k:=1) ((((TL.nil (d:=0)).l0 Tr.none).l0 Tr.none).l0 (N fC<|by rfl) |>.aC (Le rfl)) (aF 0) rfl (z _)|@dW h p x q=>exact Tr.a6 (t:=0) (k:=1) (((((TL.nil (d:=1)).l1 (rx q)<|aF 1).l0<|Tr.bool p).l0<|N wh (by rfl)).l0 (N pV<|by rfl) |>.aC (Le rfl)) (aF 0) rfl (bY 2 _)|@un h u e hu _ ih=>
  cases u with
  |y1=>exact((((TL.bh ih).l0 Tr.none).l0<|N fC (by rfl)).aC<|Le rfl).a6 (k:=1) m1 rfl u1|yf=>exact((((TL.bh ih)).l0<|N jN (by rfl)).aC<|Le rfl).a6 (k:=1) m1 rfl u1|call=>exact((((TL.bh<|(TL.bh<|((((TL.nil.l0 Tr.none).l0 bf).ad ih)).aC (Le rfl)).aC (Le rfl)).l1 nf<|aj (z h) l2).l0<|N pW (by rfl)).aC<|Le rfl).a6 (k:=1) m1 rfl (lP h (j:=3) rfl)|nt=>exact((((TL.bh ih).l0<|N BE (by rfl)).l0<|N oM (by rfl)).aC<|Le rfl).a6 (k:=1) m1 rfl u1|neg=>exact((((TL.bh ih).l0<|N m9 (by rfl)).l0<|N oM (by rfl)).aC<|Le rfl).a6 (k:=1) m1 rfl u1|jP=>exact((((TL.bh ih)).l0<|N tH (by rfl)).aC<|Le rfl).a6 (k:=1) m1 rfl u1|fF=>exact((((TL.bh ih).l0<|N pY (by rfl)).l0<|N mu (by rfl)).aC<|Le rfl).a6 (k:=1) m1 rfl u1|iS=>exact((((TL.bh ih).l0<|N tF (by rfl)).l0<|N mu (by rfl)).aC<|Le rfl).a6 (k:=1) m1 rfl u1|aN x=>exact((((TL.bh ih).l1 (rx (s:=x) hu)<|z h).l0<|N nV (by rfl)).aC<|Le rfl).a6 (k:=1) m1 rfl u1|op p x=>cases p with
   |true=>exact(((((TL.bh ih).l1 (rx (s:=x) hu)<|z h).l0<|N rF (by rfl)).l0<|N jO (by rfl)).aC<|Le rfl).a6 (k:=1) m1 rfl u1|false=>exact(((((TL.bh ih).l1 (rx (s:=x) hu)<|z h).l0<|N tA (by rfl)).l0<|N jO (by rfl)).aC<|Le rfl).a6 (k:=1) m1 rfl u1
  |bS sp=>exact(((TL.bh<|(TL.bh<|((((TL.nil.l0<|Tr.bool sp).l0 bf).ad ih).l0 Tr.none).aC (Le rfl)).aC (Le rfl)).l0<|N oO (by rfl)).aC<|Le rfl).a6 (k:=1) m1 rfl (lP h (j:=3) rfl)
 |@bi h w a b _ _ aE aJ=>
  cases w with
  |y2=>exact(((((TL.bh aJ).ad aE)).l0<|N fC (by rfl)).aC<|Le rfl).a6 (k:=3) m2 rfl u1|call=>exact(((TL.bh<|(((TL.bh<|((TL.nil.l0 Tr.none).l0 bf).ad aJ |>.aC (Le rfl)).ad<|((TL.nil.l0 Tr.none).l0 bf).ad aE |>.aC (Le rfl))).aC (Le rfl)).l1 nf<|aj (z h) l2).l0 (N pW<|by rfl) |>.aC (Le rfl)).a6 (k:=3) m2 rfl (lP h (j:=3) rfl)|bS sa sb=>exact(((TL.bh<|(((TL.bh<|(((TL.nil.l0<|Tr.bool sb).l0 bf).ad aJ).l0 Tr.none |>.aC (Le rfl)).ad<|(((TL.nil.l0<|Tr.bool sa).l0 bf).ad aE).l0 Tr.none |>.aC (Le rfl))).aC (Le rfl))).l0 (N oO<|by rfl) |>.aC (Le rfl)).a6 (k:=3) m2 rfl (lP h (j:=3) rfl)|dY=>exact(((TL.bh<|(((TL.bh aJ).ad aE).l1 (pL (v:=.str et) ⟨aa,aa⟩)<|z h).aC (Le rfl))).l0 (N tD<|by rfl) |>.aC (Le rfl)).a6 (k:=3) m2 rfl (lP h (j:=2) rfl)|d8=>exact(((((TL.bh<|aJ.up l1).ad<|Bf aE (z h))).l0<|N nV (by rfl)).aC<|Le rfl).a6 (k:=3) m2 rfl (lP h (j:=2) rfl)|fW p=>cases p with
   |true=>exact((((((TL.bh<|aJ.up l1).ad<|Bf aE (z h))).l0<|N rF (by rfl)).l0<|N jO (by rfl)).aC<|Le rfl).a6 (k:=3) m2 rfl (lP h (j:=2) rfl)|false=>exact((((((TL.bh<|aJ.up l1).ad<|Bf aE (z h))).l0<|N tA (by rfl)).l0<|N jO (by rfl)).aC<|Le rfl).a6 (k:=3) m2 rfl (lP h (j:=2) rfl)
 |@la h l a b _ _ aE aJ=>
  cases l with
  |bq o=>cases o<;>exact(((((TL.bh aJ).ad aE)).l0<|N _ (by rfl)).l0 (N wz<|by rfl) |>.aC (Le rfl)).a6 (k:=2) m2 rfl u1|cS=>exact(((((TL.bh aJ).ad aE)).l0<|N kc (by rfl)).aC<|Le rfl).a6 (k:=2) m2 rfl u1
 |@cN h o a b _ _ aE aJ=>
  cases o with
  |true=>exact(((((TL.bh aJ).ad aE)).l0<|N yM (by rfl)).aC<|Le rfl).a6 (k:=2) m2 rfl u1|false=>exact(((((TL.bh aJ).ad aE)).l0<|N wA (by rfl)).aC<|Le rfl).a6 (k:=2) m2 rfl u1
 |@bW h a b _ _ _ aE aJ=>exact(((((TL.bh aJ).ad aE)).l0<|N wx (by rfl)).aC<|Le rfl).a6 (k:=2) m2 rfl u1|@c7 h a b _ _ aE aJ=>exact((((((TL.bh aJ).l0 Tr.none).ad aE)).l0<|N j7 (by rfl)).aC<|Le rfl).a6 (k:=2) m2 rfl u1|@c6 h a b d _ _ _ aE aJ gW=>exact((((((TL.bh gW).ad aJ).ad aE)).l0<|N j7 (by rfl)).aC<|Le rfl).a6 (k:=2) (aj m3<|bA (ay (40*·)<|iW (tE a) (tE b) (tE d))) rfl u1|@dz h x e q _ ih=>exact(((((TL.bh ih).l1 (rx q)<|z h).l0<|N pR (by rfl)).l0<|N jO (by rfl)).aC<|Le rfl).a6 (k:=2) m1 rfl u1|@c8 h a b _ _ aE aJ=>exact((((((TL.bh<|aJ.up l1).ad<|Bf aE (z h))).l0<|N pR (by rfl)).l0<|N jO (by rfl)).aC<|Le rfl).a6 (k:=3) m2 rfl (lP h (j:=2) rfl)|@cZ h e w v _ hw hv ih=>
  have A:Tr 0 108 4 (zZ w v):=(((TL.nil (d:=3)).l1 ((((TL.nil (d:=1)).l1 (pL (v:=.int 8)<|show(8:aH).natAbs<=0+10 by decide)<|aF 1).l0 Tr.none).aC<|Le rfl) aa).l1 ((((TL.nil (d:=2)).l1 (pL (v:=.int 7)<|show(7:aH).natAbs<=0+10 by decide) aa).l1 ((((TL.nil (d:=1)).l1 (pL hv)<|aF 1).l1 (pL hw)<|aF 1).aC<|Le rfl)<|aF 2).aC<|Le rfl)<|aF 3).aC (Le rfl)
  have B:TL (40*tE e) (0+1+(108+1+0)) (4*h+2+2) [ak e,zZ w v]:=(TL.nil.l1 A<|bY 4 (4*h)).cons ih l2
  exact((B.l0<|N rI (by rfl)).aC<|Le rfl).a6 (k:=4) m1 rfl (lP h (j:=3) rfl)
theorem TL.aU{A c d A' d':ai}{xs:af V}(u:TL A c d xs)(hA:A<=A')(hd:d<=d'):TL A' c d' xs:=⟨u.s,u.l,aj u.w (dP hA c),aj u.d hd,u.b⟩
theorem Tr.jQ{A c d D t k:ai}{v:V}(u:Tr A c d v)(hA:A<=40*t)(hc:kD (c+1) (40*k)=ae)(hd:d<=D):TL (40*(t+k)) 0 D [v]:=
 have w:=TL.bh (u.up hd)
 ⟨w.s,w.l,aj w.w (aj (cQ hA<|bJ hc)<|bA (pw 40 t k).symm),w.d,w.b⟩
theorem TL.f6{A d:ai}{v:V}{xs:af V}(u:TL A 0 d (v::xs)):Tr A 0 d v:=
 ⟨(dc.mp u.s).1,(dc.mp u.l).1,aj (aj (aR _)<|aW _ _) u.w,aj (Jl _ _) u.d,u.b.1⟩
theorem TL.join{A B d:ai}{v:V}{xs:af V}(u:TL A 0 d [v])(w:TL B 0 d xs):TL (A+B) 0 d (v::xs):=
 ⟨dc.mpr ⟨(dc.mp u.s).1,w.s⟩,dc.mpr ⟨(dc.mp u.l).1,w.l⟩,(cQ (show v.weight+1<=A from u.w) (show DD xs<=B from w.w):v.weight+1+DD xs<=A+B),xK.mpr ⟨aj (Jl _ _) u.d,w.d⟩,u.b.1,w.b⟩
theorem Vd(x:S):1<=tS x:=by
 cases x with
 |b9=>exact p1 |> λh=>aj h (bY _ _)|dH=>exact aj p1 (aj (bY _ _)<|aj (bY _ _) (aj (bY _ _)<|bY _ _))|sw=>exact aj p1 (bY _ _) |> λh=>aj h (bY _ _)|ig=>exact p1|cM=>exact p1|c9=>exact p1|fe=>exact p1|tr=>exact p1|fk=>exact aF 1|jK=>exact aF 1|_=>exact l1
theorem Gs:∀b:af S,b.length<=tB b
 |[]=>aF 0|x::b=>aj (cQ (Gs b)<|Vd x) (bA<|l7 _ _)
theorem n2{a b c:ai}:40*a+(40*b+40*c)<=40*(a+(b+c)):=aj (bK m2 _) m2
theorem Qc{q:az}{h:ai}{b:af S}(o:bR q h b):tB b<=90000->TL (40*tB b) 0 (4*h+2) (av b):=by
 have Le:∀{xs:af V},kD xs.length 90000=ae->xs.length<=90000:=λh=>bJ h
 have N:∀(s:aq),((jn s).leavesShort 13&&kD s.length 90000)=ae->Tr 0 s.length 0 (.str s):=Tr.hd
 have B:∀{h t:ai}{b:af S},(tB b<=90000->TL (40*tB b) 0 (4*h+2) (av b))->tB b<=t->t<=90000->Tr (40*tB b) 0 (4*h+3) (.tuple<|av b):=λib l g=>(ib<|aj l g).aC (aj (bA<|qJ _)<|aj (Gs _) (aj l g))
 have u1:∀{h:ai},4*h+2+1<=4*(h+1)+2:=λ{h}=>lP h (j:=1) rfl
 have u2:∀{h:ai},4*h+2+2<=4*(h+1)+2:=λ{h}=>lP h (j:=2) rfl
 have u4:∀{h:ai},4*h+2+4<=4*(h+1)+2:=λ{h}=>lP h (j:=4) rfl
 have up:∀{h j:ai},4*h+2<=4*h+2+j:=λ{h j}=>aW _ j
 have J:∀j,TL (40*(0+1)) 0 2 [fY j]:=λj=>by
  cases j
  ·exact Tr.jQ (t:=0) (((TL.nil (d:=0)).l0<|pL (v:=.int 1) (show(1:aH).natAbs<=0+10 by decide) |> λ_=>Tr.HQ (v:=.int 1) (show(1:aH).natAbs<=0+10 by decide)).l0 (N wu<|by rfl) |>.aC (Le rfl)) (aF 0) rfl aa
  ·exact Tr.jQ (t:=0) (((TL.nil (d:=0)).l0<|Tr.HQ (v:=.int 1) (show(1:aH).natAbs<=0+10 by decide)).l0 (N wy<|by rfl) |>.aC (Le rfl)) (aF 0) rfl aa
 refine bR.rec (motive_1:=λh x _=>tS x<=90000->TL (40*tS x) 0 (4*h+2) [aM x]) (motive_2:=λh b _=>tB b<=90000->TL (40*tB b) 0 (4*h+2) (av b)) ?_ ?_ ?_ ?_ ?_ ?_ ?_ ?_ ?_ ?_ ?_ ?_ ?_ ?_ ?_ ?_ o
 ·exactλoe _=>((((TL.bh<|nA oe)).l0<|N lH (by rfl)).aC<|Le rfl).jQ (k:=1) m1 rfl u1
 ·exactλoe _=>(((TL.bh<|(TL.bh<|nA oe).aC (Le rfl)).l0<|N iz (by rfl)).aC<|Le rfl).jQ (k:=1) m1 rfl u2
 ·exactλ{h a b} oa ob _=>(((TL.bh<|((TL.bh<|nA ob).ad<|nA oa).aC (Le rfl)).l0<|N iz (by rfl)).aC<|Le rfl).jQ (t:=tE a+1+tE b) (k:=1) (aj (dP (lA 40<|aR (tE a)) _) m2) rfl u2
 ·exactλ{h k} _=>(J k).aU (aF _) (bY 2 _)
 ·exactλ{h} _=>Tr.jQ (t:=0) (((TL.nil (d:=0)).l0 Tr.none).l0 (N jt<|by rfl) |>.aC (Le rfl)) (k:=1) (aF 0) rfl (aj (aa:0+1<=2)<|bY 2 (4*h))
 ·exactλoe _=>((((TL.bh<|nA oe)).l0<|N jt (by rfl)).aC<|Le rfl).jQ (k:=1) m1 rfl u1
 ·exactλob ib g=>(((TL.bh<|B ib (aR _) g).l0<|N tK (by rfl)).aC<|Le rfl).jQ (k:=1) m1 rfl u2
 ·intro h e b o k oe ob oo ho ib io g
  have P:=((TL.bh<|((TL.bh<|B ib (aj (aW _ _)<|bY _ (tE e)) g).cons (nA oe)<|aR _).aC (Le rfl)).aC<|Le rfl)
  cases k with
  |true=>exact((((TL.bh<|(B io (aj (aR _)<|aj (bY _ (tB b)) (bY _ (tE e))) g).up (d':=4*h+2+3) (bK (aa:3<=5)<|4*h)).ad P).l0<|N j7 (by rfl)).aC<|Le rfl).jQ (t:=tE e+(tB b+tB o)) (k:=1) (aj (bA<|fg _ _ _) n2) rfl u4|false=>exact((((TL.nil.l0 Tr.none).ad P).l0<|N j7 (by rfl)).aC<|Le rfl).jQ (t:=tE e+(tB b+tB o)) (k:=1) (aj (bK (lA 40<|aW (tB b) (tB o)) _) m2) rfl u4
 ·intro h e b e' b' o k oe ob ey fX oo ho ib cV io g
  have g1:tB b<=90000:=aj (aj (aW _ _)<|bY _ (tE e)) g
  have g2:tB o+(tE e'+(tB b'+(tB o+1)))<=90000:=aj (aj (bY _ (tB b))<|bY _ (tE e)) g
  have g3:tB b'<=90000:=aj (aj (aW _ _)<|aj (bY _ (tE e')) (bY _ (tB o))) g2
  have P1:=((TL.bh<|B ib (aF _) g1).cons (nA oe)<|aR _).aC (Le rfl)
  have P2:=((TL.bh<|B cV (aF _) g3).cons (nA ey)<|aR _).aC (Le rfl)
  have P:=((TL.bh P2).ad P1).aC (Le rfl)
  have M:40*tE e+40*tB b+(40*tE e'+40*tB b')<=40*(tE e+(tB b+(tE e'+tB b'))):=aj (bA<|fg _ _ _) (aj (bK n2 _) m2)
  cases k with
  |true=>
   exact((((TL.bh<|(B io (aW _ _) g2).up (d':=4*h+2+3) (bK (aa:3<=5)<|4*h)).ad P).l0<|N j7 (by rfl)).aC<|Le rfl).jQ (t:=tE e+(tB b+(tB o+(tE e'+(tB b'+tB o))))) (k:=1)
    (aj (dP M _)<|aj m2 (lA 40<|by
     rw[fg,fg,fg]
     exact bK (bK (bY _ _) _) _)) rfl u4
  |false=>
   exact((((TL.nil.l0 Tr.none).ad P).l0<|N j7 (by rfl)).aC<|Le rfl).jQ (t:=tE e+(tB b+(tB o+(tE e'+(tB b'+tB o))))) (k:=1)
    (aj M<|lA 40 (bK (bK (aj (bK (aW _ _) _)<|bY _ _) _) _)) rfl u4
 ·exactλ{h e b} oe ob ib g=>((((TL.bh<|B ib (aj (aR _)<|bY _ (tE e)) g).cons (nA oe)<|aR _).l0<|N nc (by rfl)).aC<|Le rfl).jQ (t:=tE e+tB b) (k:=1) m2 rfl u2
 ·exactλ{h e b} oe ob ib g=>((((TL.bh (nA oe) |>.aU (aF _) (aR _)).ad<|B ib (aj (aW _ 3)<|bY _ (tE e)) g).l0<|N wt (by rfl)).aC<|Le rfl).jQ (t:=tE e+tB b) (k:=3) (aj (bA<|l7 _ _) m2) rfl u2
 ·exactλ{h sa sb x y b} oe ob ib g=>(((((((TL.bh<|B ib (aj (aR _)<|bY _ (tE<|.bi (.bS sa sb) x y)) g).l0<|Tr.bool ag).l1 (rx (c:=ae) .c)<|bY 1 _).l0 Tr.none).cons (nA oe)<|aR _).l0<|N wq (by rfl)).aC<|Le rfl).jQ (t:=tE (.bi (.bS sa sb) x y)+tB b) (k:=1) m2 rfl u2
 ·intro h e x y oe ox oy ix iy g
  have g1:tB y+(tE e+4)<=90000:=aj (bY _ (tB x)) g
  have P1:=((TL.bh<|B ix (aW _ _) g).l1 (pL (v:=.int 1)<|show(1:aH).natAbs<=0+10 by decide)<|bY 1 _).aC (Le rfl)
  have P2:=((TL.bh<|B iy (aW _ _) g1).l0 Tr.none).aC (Le rfl)
  have Q:Tr 0 40 2 (fY ae):=have t:=(J ae).f6;⟨t.s,t.l,aj t.w aa,t.d,t.b⟩
  have P3:Tr 0 _ 4 (.tuple [bO (.int 2),.tuple [fY ae]]):=((TL.nil.l1 ((TL.nil.l1 Q<|aF 2).aC<|Le rfl)<|aF 3).l1 (pL (v:=.int 2)<|show(2:aH).natAbs<=0+10 by decide) aa).aC (Le rfl)
  have P:=(((TL.nil (d:=4*h+4)).l1 P3<|bY 4 _).ad P2).ad P1 |>.aC (Le rfl)
  exact(((TL.bh P).cons (nA oe)<|aW _ 3).l0 (N yL<|by rfl) |>.aC (Le rfl)).jQ (t:=tB x+(tB y+tE e)) (k:=4) (aj (bA<|(l7 _ _).trans (fg _ _ _)) n2) rfl u4
 ·exactλ{h b f} ob of ib jf g=>(((((TL.bh<|B jf (aW _ _) g).l1 ((TL.nil (d:=0)).aC<|Le rfl)<|bY 1 _).ad<|B ib (aj (aR _)<|bY _ (tB f)) g).l0<|N yK (by rfl)).aC<|Le rfl).jQ (t:=tB f+tB b) (k:=1) (aj (bA<|l7 _ _) m2) rfl u2
 ·exactλ_=>TL.nil
 ·exactλ{h x r} ox or _ ix ir g=>((ix<|aj (aW _ _) g).join<|ir (aj (bY _ (tS x)) g)).aU m2 (aF _)
theorem vP:∀(a b:af S),tB (a++b)=tB a+tB b
 |[],b=>(kC _).symm|x::a,b=>(ay (tS x+·)<|vP a b).trans (fg _ _ _).symm
def Wt(h:H)(t:ai):Prop:=tB h.o+tE h.e<=t
section
variable{A B a b j k n t:ai}{h:H}{e x:E}{o:af S}
theorem P8(hA:A<=8*a)(hB:B<=8*b)(hj:kD j (8*k)=ae):A+B+j<=8*(a+b+k):=
 aj (cQ (cQ hA hB)<|bJ hj) (bA<|(ay (·+8*k) (pw 8 a b).symm).trans (pw 8 (a+b) k).symm)
theorem z9(hA:A<=8*a)(hj:kD j (8*k)=ae):A+j<=8*(a+k):=aj (cQ hA<|bJ hj) (bA (pw 8 a k).symm)
theorem mi(o:af S)(x:S):tB (o++[x])=tB o+tS x:=vP o [x]
theorem Wt.le{t':ai}(w:Wt h t)(l:t<=t'):Wt h t':=aj w l
theorem Wt.keep{late:az}(w:Wt h A):Wt (keep late h) (A+3):=by
 refine aO (λq:H=>Wt q<|A+3) (λ_=>w.le<|aW _ 3) λ_=>?_
 show tB (h.o++[cB (aG<|h.n+1) h.e])+1<=A+3
 rw[mi]
 exact dP w 3
theorem Wt.mc{k:ai}(w:Wt h A):Wt (kH k h) (A+3):=by
 show tB (h.o++[cB (aG k) h.e])+1<=A+3
 rw[mi]
 exact dP w 3
theorem Wt.cast(w:Wt h A):Wt (ij x h) (A+1):=aO (λq:H=>Wt q<|A+1) (λ_=>w.le<|aR A) λ_=>bG w
theorem Wt.s8{q:az}(w:Wt h A):Wt (kL q h) (A+1):=aO (λq:H=>Wt q<|A+1) (λ_=>bG w) λ_=>w.le (aR A)
theorem Wt.pr{F:E->E->E}{late yb:az}{b':E}{hb:ai->H}(hF:∀x y,tE (F x y)=tE x+tE y+k)(w:Wt h A)(w':∀n,Wt (hb n) B)(lb:tE b'<=B):Wt (pr F late yb b' h hb) (A+B+(3+k)):=by
 refine aO (λq:H=>Wt q<|A+B+(3+k)) (λ_=>?_) λ_=>?_
 ·have q:=w.keep (late:=late)
  show tB ((Mine.L.keep late h).o++(hb (Mine.L.keep late h).n).o)+tE (F (Mine.L.keep late h).e (hb (Mine.L.keep late h).n).e)<=_
  rw[vP,hF]
  exact aj (bA<|(fg _ _ k).symm.trans (ay (·+k)<|Jn _ _ _ _)) (aj (dP (cQ q<|w' _) k)<|bA ((ay (·+k)<|iW A 3 B).trans (fg _ 3 k)))
 ·show tB h.o+tE (F h.e b')<=_
  rw[hF]
  exact aj (bA<|(fg _ _ k).symm.trans (ay (·+k) (fg _ _ _).symm)) (aj (dP (cQ w lb) k)<|bK (bY k 3) _)
theorem Wt.d7{o1:af S}{x1 x2 c:E}(w1:tB o1+tE x1<=A)(wc:tE c<=j)(w2:tB h.o+tE x2<=B):Wt (d7 n o1 x1 c h x2) (A+B+(j+6)):=by
 show tB ((o1++[cB (aG<|n+1) x1])++[eA c<|h.o++[cB (aG<|n+1) x2]])+1<=_
 rw[mi,mi]
 show(tB o1+(tE x1+2))+(tE c+(tB (h.o++[cB (aG<|n+1) x2])+1))+1<=_
 rw[mi]
 show(tB o1+(tE x1+2))+(tE c+((tB h.o+(tE x2+2))+1))+1<=_
 omega
end
theorem jT(e:E):∀n,Wt (hv e n) (8*tE e):=by
 have z:∀{e:E}{n:ai},Wt ⟨e,n,[]⟩ (8*tE e):=λ{e n}=>aj (bA<|kC _) (lC _ aa)
 have l:∀e:E,tE e<=8*tE e:=λe=>lC _ aa
 have st:∀{a b:E}{h:H}{k:ai}(e:E),Wt h (8*tE a)->tE e=tE h.e+tE b+k->Wt ⟨e,h.n,h.o⟩ (8*(tE a+tE b+k)):=λ{a b h k} e w q=>by
  show tB h.o+tE e<=_
  rw[q]
  exact aj (bA<|(fg _ _ k).symm.trans (ay (·+k) (fg _ _ _).symm)) (aj (cQ (cQ w<|l b)<|lC k (aa:0<8))<|bA ((ay (·+8*k) (pw 8 _ _).symm).trans (pw 8 _ k).symm))
 induction e with
 |lit d=>exactλn=>z|var x=>exactλn=>z|y0=>exactλn=>(aa:0+2+1+1<=8)
 |dW p x=>exactλn=>z|un u e ih=>
  exactλn=>aO (λq:H=>Wt q<|8*(tE e+1)) (λ_=>(Wt.mc (h:=⟨.un u (hv e<|n+1).e,(hv e<|n+1).n,(hv e<|n+1).o⟩)<|bG (ih<|n+1)).le<|z9 (j:=4) (ih (n+1) |> λ_=>aF _) rfl) λ_=>aj (bG<|ih n) (z9 (j:=1) (aF _) rfl)
 |bi w a b aE aJ=>
  intro n
  cases w with
  |y2=>exact((aE<|n+1).pr (k:=3) (λ_ _=>rfl) aJ<|l b).mc.le (P8 (j:=9) (A:=8*tE a) (B:=8*tE b) (aF _) (aF _) rfl)|bS sa sb=>exact((aE n).s8.pr (k:=3) (λ_ _=>rfl) aJ<|l b).le (aj (bA<|ay (·+6) (iW _ 1 _))<|P8 (j:=7) (aF _) (aF _) rfl)|dY=>
   refine aO (λq:H=>Wt q<|8*(tE a+tE b+3)) (λ_=>?_) λ_=>z
   exact((aE n).cast.pr (k:=3) (λ_ _=>rfl) (λk=>(aJ k).cast)<|aj (H5 b) (bG<|l b)).le (aj (bA<|ay (·+6) (Jn _ 1 _ 1))<|P8 (j:=8) (aF _) (aF _) rfl)
  |call=>exact((aE n).pr (k:=3) (λ_ _=>rfl) aJ<|l b).le (P8 (aF _) (aF _) rfl)|d8=>exact((aE n).pr (k:=3) (λ_ _=>rfl) aJ<|l b).le (P8 (aF _) (aF _) rfl)|fW p=>exact((aE n).pr (k:=3) (λ_ _=>rfl) aJ<|l b).le (P8 (aF _) (aF _) rfl)
 |la q a b aE aJ=>exactλn=>((aE n).pr (k:=2) (λ_ _=>rfl) aJ<|l b).le (P8 (aF _) (aF _) rfl)|cN q a b aE aJ=>
  exactλn=>aO (λq:H=>Wt q<|8*(tE a+tE b+2)) (λ_=>(Wt.d7 (A:=8*tE a+1) (B:=8*tE b+1) (x1:=.un .fF (hv a<|n+1).e) (c:=if q then .un .nt (.var<|aG (n+1)) else .var (aG<|n+1)) (x2:=.un .fF (hv b (hv a<|n+1).n).e) (j:=2) (bG<|aE _) (aO (λc:E=>tE c<=2) (λ_=>aF 2) λ_=>aR 1)<|bG (aJ _)).le<|aj (bA<|ay (·+8) (Jn _ 1 _ 1)) (P8 (j:=10) (aF _) (aF _) rfl)) λ_=>st _ (aE n) rfl
 |bW a b aE aJ=>
  exactλn=>aO (λq:H=>Wt q<|8*(tE a+tE b+2)) (λ_=>(Wt.d7 (A:=8*tE a+3) (B:=8*tE b) (x1:=.bW (hv a<|n+1).e<|.lit .none) (c:=gq<|aG (n+1)) (x2:=(hv b (hv a<|n+1).n).e) (j:=4) (dP (aE _) 3) (aF 4)<|aJ _).le<|aj (bA<|ay (·+10) (iW _ 3 _)) (P8 (j:=13) (aF _) (aF _) rfl)) λ_=>st _ (aE n) rfl
 |c7 a b aE aJ=>exactλn=>aO (λq:H=>Wt q<|8*(tE a+tE b+2)) (λ_=>(Wt.d7 (x1:=(hv a<|n+1).e) (c:=.un .nt<|.var (aG<|n+1)) (x2:=(hv b (hv a<|n+1).n).e) (j:=2) (aE _) (aF 2)<|aJ _).le<|P8 (aF _) (aF _) rfl) λ_=>st _ (aE n) rfl|c6 a b c aE aJ wZ=>
  intro n
  refine aO (λq:H=>Wt q<|8*(tE a+tE c+tE b+2)) (λ_=>?_) λ_=>?_
  ·have wa:=aE (n+1)
   have wc:=wZ (hv a<|n+1).n
   have wb:=aJ (hv c (hv a<|n+1).n).n
   show tB ((hv a<|n+1).o++[S.b9 (hv a<|n+1).e ((hv b (hv c (hv a<|n+1).n).n).o++[cB (aG<|n+1) (hv b (hv c (hv a<|n+1).n).n).e]) ((hv c (hv a<|n+1).n).o++[cB (aG<|n+1) (hv c (hv a<|n+1).n).e]) ae])+1<=_
   rw[mi]
   show tB _+(tE _+(tB (_++[_])+(tB (_++[_])+1)))+1<=_
   rw[mi,mi]
   show tB (hv a<|n+1).o+(tE (hv a<|n+1).e+((tB (hv b (hv c (hv a<|n+1).n).n).o+(tE (hv b (hv c (hv a<|n+1).n).n).e+2))+((tB (hv c (hv a<|n+1).n).o+(tE (hv c (hv a<|n+1).n).e+2))+1)))+1<=_
   unfold Wt at wa wb wc
   omega
  ·have wa:=aE n
   show tB (hv a n).o+(tE (hv a n).e+tE c+tE b+2)<=_
   unfold Wt at wa
   omega
 |dz x e ih=>
  intro n
  refine aO (λq:H=>Wt q<|8*(tE e+2)) (λ_=>?_) λ_=>z
  exact(Wt.d7 (A:=4) (B:=8*tE e+1) (o1:=[]) (x1:=.bW (.var x)<|.lit .none) (c:=gq<|aG (n+1)) (x2:=.un (.aN x) (hv e<|n+1).e) (j:=4) (aF 4) (aF 4)<|bG (ih _)).le (aj (bA<|ay (·+10) (l7 4 _))<|z9 (j:=15) (aF _) rfl)
 |c8 a b aE aJ=>
  intro n
  refine aO (λq:H=>Wt q<|8*(tE a+tE b+3)) (λ_=>?_) λ_=>st _ (aE n) rfl
  have k:=(aE<|n+1).keep (late:=ag)
  have s:tE (keep ag<|hv a (n+1)).e<=1:=by
   cases q:lF (hv a<|n+1).e with
   |true=>
    rw[show keep ag (hv a<|n+1)=hv a (n+1) from a9 (by rw[q];rfl)]
    generalize (hv a<|n+1).e=x at q
    cases x with
    |lit _=>exact aF 1|var _=>exact aF 1|_=>cases q
   |false=>rw[show keep ag (hv a<|n+1)=⟨.var (aG<|(hv a<|n+1).n+1),(hv a<|n+1).n+1,(hv a<|n+1).o++[cB (aG<|(hv a<|n+1).n+1) (hv a<|n+1).e]⟩ from br (by rw[q];exact ed)];exact aF 1
  have w2:=aJ (keep ag<|hv a (n+1)).n
  refine(Wt.d7 (n:=n) (o1:=(keep ag<|hv a (n+1)).o) (x1:=.bW (.la .cS (.var bz) (keep ag<|hv a (n+1)).e)<|.lit .none) (c:=gq<|aG (n+1)) (x2:=.bi .d8 (keep ag<|hv a (n+1)).e (hv b (keep ag<|hv a (n+1)).n).e) (A:=8*tE a+3+6) (B:=8*tE b+4) (j:=4) ?_ (aF 4) ?_).le ?_
  ·show tB _+((1+tE _+2)+1+2)<=_
   unfold Wt at k
   omega
  ·show tB _+(tE _+tE _+3)<=_
   unfold Wt at w2
   omega
  ·omega
 |cZ e w v ih=>exactλn=>aj (dP (ih n) 4) (z9 (j:=4) (aF _) rfl)
section
variable{A X a x j k:ai}
theorem r2(hA:A<=8*a)(hX:X<=8*x):A+X<=8*(a+x):=aj (cQ hA hX) (bA (pw 8 a x).symm)
theorem oL{h:H}{s:S}{t:ai}(w:Wt h (8*a))(e:tS s=tE h.e+X)(hX:X<=8*x):tB (h.o++[s])<=8*(a+x):=by
 rw[mi,e]
 exact aj (bA (fg _ _ _).symm) (r2 w hX)
end
theorem ZR(s:S):tB [s]=tS s:=Nat.add_zero _
theorem afH{e:E}(n:ai)(hy:ia e=ae):Wt (fR e n) (8*tE e):=by
 cases e with
 |y0=>exact(aa:0+1<=8)|un u e=>exact aj (bG<|jT e n) (z9 (j:=1) (aF _) rfl)|bi w a b=>exact((jT a n).pr (k:=3) (λ_ _=>rfl) (jT b)<|lC _ aa).le (P8 (aF _) (aF _) rfl)|_=>cases hy
theorem Ob(e:E):tS (gn e)=tE e+3:=rfl
theorem acL{c:az}{h:ai}{b:af S}(o:bR c h b):∀n,tB (hB b n).1<=8*tB b:=by
 have l:∀t:ai,t<=8*t:=λt=>lC _ aa
 have on:∀{s:S}{t:ai},tS s<=8*t->tB [s]<=8*t:=λ{s t} h=>(ZR s).symm▸h
 have e1:(1:ai)<=8*1:=aa
 refine bR.rec (motive_1:=λ_ x _=>∀n,tB (h1 x n).1<=8*tS x) (motive_2:=λ_ b _=>∀n,tB (hB b n).1<=8*tB b) ?_ ?_ ?_ ?_ ?_ ?_ ?_ ?_ ?_ ?_ ?_ ?_ ?_ ?_ ?_ ?_ o
 ·intro _ e _ n
  refine aO (λp:af S×ai=>tB p.1<=8*(tE e+1)) (λ_=>?_) λ_=>on (l<|tE e+1)
  cases q:ia e with
  |true=>rw[a9 rfl];exact oL (t:=0) (afH n q) rfl e1|false=>
   rw[br ed]
   exact aO (λm:af S=>tB ((hv e n).o++m)<=8*(tE e+1)) (λ_=>(fy (hv e n).o).symm▸aj (aW _ _) (aj (jT e n)<|lA 8 (aR _))) λ_=>oL (t:=0) (jT e n) rfl e1
 ·exactλ{_ e} _ n=>oL (t:=0) (jT e n) rfl e1
 ·intro _ a b _ _ n
  refine aO (λp:af S×ai=>tB p.1<=8*((tE a+1)+(tE b+1))) (λ_=>?_) λ_=>on (l _)
  exact(vP _ _).symm▸r2 (oL (t:=0) (jT a n) rfl e1) (oL (t:=0) (jT b _) rfl e1)
 ·exactλn=>on (l 1)
 ·exactλn=>on (l 1)
 ·exactλ{_ e} _ n=>oL (t:=0) (jT e n) rfl e1
 ·exactλ_ ib n=>on (r2 (ib n) e1)
 ·exactλ{_ e b o k} _ _ _ _ ib io n=>oL (t:=0) (jT e n) rfl (r2 (ib _)<|r2 (io _) e1)
 ·intro _ e b e' b' o k _ _ _ _ _ _ ib cV io n
  refine aO (λp:af S×ai=>tB p.1<=8*(tE e+(tB b+(tB o+(tE e'+(tB b'+(tB o+1))))))) (λ_=>?_) λ_=>?_
  ·refine oL (t:=0) (X:=tB (hB b (hv e n).n).1+(tB ((hv e' (hB o (hB b (hv e n).n).2).2).o++[S.b9 (hv e' (hB o (hB b (hv e n).n).2).2).e (hB b' (hv e' (hB o (hB b (hv e n).n).2).2).n).1 (hB o (hB b' (hv e' (hB o (hB b (hv e n).n).2).2).n).2).1 k])+1)) (jT e n) rfl (r2 (ib _) ?_)
   have h1:=jT e' (hB o (hB b (hv e n).n).2).2
   have h2:=cV (hv e' (hB o (hB b (hv e n).n).2).2).n
   have h3:=io (hB b' (hv e' (hB o (hB b (hv e n).n).2).2).n).2
   rw[mi]
   show tB _+(tE _+(tB _+(tB _+1)))+1<=_
   unfold Wt at h1
   omega
  ·exact oL (t:=0) (jT e n) rfl (r2 (ib _) (by
    have h1:=io (hB b (hv e n).n).2
    have h2:=cV (hB o (hB b (hv e n).n).2).2
    omega))
 ·intro _ e b _ _ ib n
  refine aO (λp:af S×ai=>tB p.1<=8*(tE e+(tB b+1))) (λ_=>on ?_) λ_=>on (r2 (l _)<|r2 (ib n) e1)
  have h1:=jT e n
  have h2:=ib (hv e n).n
  show 1+(tB (((hv e n).o++[gn (hv e n).e])++(hB b (hv e n).n).1)+1)<=_
  rw[vP,mi,Ob]
  unfold Wt at h1
  omega
 ·intro _ e b _ _ ib n
  refine aO (λp:af S×ai=>tB p.1<=8*(tE e+(tB b+3))) (λ_=>?_) λ_=>on (r2 (l _)<|r2 (ib n) (l 3))
  have h1:=jT e (n+1)
  have h2:=ib (hv e<|n+1).n
  show 3+((1+((1+(tB ((hv e<|n+1).o++[gn (hv e<|n+1).e])+(0+1)))+(3+tB (hB b (hv e<|n+1).n).1)+1))+0)<=_
  rw[mi,Ob]
  unfold Wt at h1
  omega
 ·exactλ{_ sa sb x y b} _ _ ib n=>oL (t:=0) (jT _ n) rfl (r2 (ib _) e1)
 ·intro _ e x y _ _ _ ix iy n
  have h1:=jT e (hB y (hB x n).2).2
  have h2:=ix n
  have h3:=iy (hB x n).2
  show tB ((hv e (hB y (hB x n).2).2).o++[S.sw (hv e (hB y (hB x n).2).2).e (hB x n).1 (hB y (hB x n).2).1])<=8*(tB x+(tB y+(tE e+4)))
  rw[mi]
  show tB _+(tB _+(tB _+(tE _+4)))<=_
  unfold Wt at h1
  omega
 ·exactλ{_ b f} _ _ ib jf n=>on (r2 (jf n)<|r2 (ib _) e1)
 ·exactλn=>aF 0
 ·exactλ{_ x r} _ _ _ ix ir n=>(vP _ _).symm▸r2 (ix n) (ir _)
section
def oX:af V->az
 | .str s::_=>dM fC s||dM jN s|_=>ag
mutual
noncomputable def bg:V->az
 | .tuple xs=>oX xs||kS xs|_=>ag
noncomputable def kS:af V->az
 |[]=>ag|x::xs=>bg x||kS xs
end
def O2(k:ai)(v:V)(x:V)(rs:Rs)(os:Os)(K:aD V->Rs->Os->Prop):Prop:=b4 (hO (.name 1) x<|[ab<|.val v]++eW 1 aw) os λvs os=>wX (b5 a8 k) (dQ a8) (.call 66 [.var 1]) rs vs os λc rs os=>lT (fM c rs) os λc os=>match c with
 |true=>wX (b5 a8 k) (dQ a8) (.var 1) rs vs os λm rs os=>b4 (jr m rs) os λp os=>K (ab p.1) p.2 os|false=>K aw rs os
end
theorem ON(x:V)(xs:af V)(rs:Rs):cv .dt (.val x) (.val<|.tuple [.str fC,.str jN]) rs=ab (oX<|x::xs):=by
 show(if min (mT [.str fC,.str jN]) (jC x)<=100 then ab ([jn fC,jn jN].any λy=>jZ y x) else aw)=_
 rw[a9<|aj (ai5 _ _) (show mT [.str fC,.str jN]<=100 by decide)]
 cases x with
 |str s=>
  show ab (jZ (.str fC) (.str s)||(jZ (.str jN) (.str s)||ag))=_
  rw[qH,qH,cJ];rfl
 |_=>rfl
theorem Qa(x:V)(xs:af V)(rs:Rs):cv .eq (.val<|.tuple (x::xs)) (.val<|.tuple []) rs=ab ag:=a9 (aj (u3 _ _)<|show jC (.tuple [])<=100 by decide)
theorem aaf(ys:af V)(rs:Rs):cv .ne (.own<|.ah ys) (.own<|.ah []) rs=ab (!ys.isEmpty):=by
 show(ny (.list ys)<|.list []).map (!·)=_
 rw[show ny (.list ys) (.list [])=ab (SG ys []) from a9 (aj (u3 _ _)<|show jC (.list [])<=100 by decide),P9];rfl
theorem Pp:∀xs:af V,(!(xs.filter bg).isEmpty)=kS xs
 |[]=>rfl|x::xs=>by
  show(!(List.filter bg<|x::xs).isEmpty)=(bg x||kS xs)
  rw[mW]
  cases q:bg x with
  |true=>rw[a9 rfl];rfl|false=>rw[br ed];exact(Pp xs).trans (Bool.false_or _).symm
theorem m5(b:az)(rs:Rs):fM (.val<|.bool b) rs=ab b:=rfl
theorem Uo{x:V}{xs:af V}{k:ai}(hl:(x::xs).length<=90000)(h:∃os,lj (O2 k<|.tuple (x::xs)) (x::xs) [] os λys rs _=>ys=(x::xs).filter bg/\rs=[]):b5 a8 (k+1) 66 [] [.tuple<|x::xs] (.val<|.bool (oX (x::xs)||kS (x::xs))) []:=by
 have l1:=aj hl (aa:90000<=100000)
 have hi:e9 (.val<|.tuple (x::xs)) (.int 0) []=ab (.val x):=Cq aa (oA.mpr<|sN _) l1 rfl
 have e:∀{b:az}{os:Os}{P:Prop},P->dK (b5 a8 k) (dQ a8) Rb [] [ab (.val<|.tuple (x::xs)),aw] os (λfl rs _ _=>a6 0 fl rs=ab (.val (.bool b),[]))=P->b5 a8 (k+1) 66 [] [.tuple<|x::xs] (.val<|.bool b) []:=λp q=>⟨rfl,rfl,_,q.mpr p⟩
 cases q:oX (x::xs) with
 |true=>exact e (os:=[.au 0 ag,.aK 0 (.val x),.au 0 ae]) (an (Qa x xs [])<|an hi (an ((ON x xs []).trans (ay ab q)) (rfl:ab (MV.val (.bool ae),([]:Rs))=ab (MV.val (.bool ae),[])))) (by kernel_rfl)|false=>exact e (b:=kS<|x::xs) (os:=[.au 0 ag,.aK 0 (.val x),.au 0 ag,.cp ((x::xs).filter bg) [],.au 0<|kS (x::xs)]) (an (Qa x xs [])<|an hi (an ((ON x xs []).trans (ay ab q))<|an (an h l1) (an ((aaf _ []).trans (ay ab<|Pp (x::xs))) (rfl:ab (MV.val (.bool<|kS (x::xs)),([]:Rs))=ab (MV.val (.bool<|kS (x::xs)),[]))))) (by kernel_rfl)
mutual
theorem Ma:∀v:V,Lb v->ao (v.depth+1) 66 [] [v] (.val<|.bool (bg v)) []
 | .tuple [],_=>ao.go [] λk _ z=>z| .tuple (x::xs),h=>λk hk=>by
  cases k with
  |zero=>exact dk hk (uZ _)|succ k=>exact Uo h.1 (L9 (x::xs) h.2 k (sO hk) (.tuple<|x::xs) (·=(x::xs).filter bg) rfl)
 | .none,_=>ao.go [] λk _ z=>z| .bool b,_=>ao.go [] λk _ z=>z| .int b,_=>ao.go [] λk _ z=>z| .str b,_=>ao.go [] λk _ z=>z| .list b,_=>ao.go [] λk _ z=>z| .dict b,_=>ao.go [] λk _ z=>z
theorem L9:∀xs:af V,Ab xs->∀k,mT xs+1<=k->∀v (K:af V->Prop),K (xs.filter bg)->∃os,lj (O2 k v) xs [] os λys rs _=>K ys/\rs=[]
 |[],_,_,_,_,_,h=>⟨[],h,rfl⟩
 |x::xs,h,k,hk,v,K,hK=>by
  have hx:=Ma x h.1 k (aj (bG<|Jl _ _) hk)
  have ih:=L9 xs h.2 k (aj (bG<|ai7 _ _) hk) v
  rw[mW] at hK
  cases q:bg x with
  |true=>
   rw[q] at hK hx
   exact(ih (λys=>K<|x::ys) hK).imp' ([.call (.val<|.bool ae) [],.tr 0 ae]++·) λos z=>cR (an hx<|an (m5 ae []) z) (by kernel_rfl)
  |false=>
   rw[q] at hK hx
   exact(ih K hK).imp' ([.call (.val<|.bool ag) [],.tr 0 ag]++·) λos z=>cR (an hx<|an (m5 ag []) z) (by kernel_rfl)
end
theorem zz{n:ai}{v:V}(h:dr n v):bg v=ag:=by
 cases v with
 |tuple _=>exact h.elim|_=>rfl
def Nt(v:V):Prop:=∀l,oX (v::l)=ag
section
variable{v w:V}{xs:af V}{b c:az}
theorem Nt.ak(e:E):Nt (ak e):=by
 obtain⟨tl,h,_⟩:=(nd e).sh
 rw[h];exactλ_=>rfl
theorem FL(h:Nt v):bg (.tuple [v,.bool b,.none])=bg v:=by
 show(oX [v,.bool b,.none]||(bg v||ag))=bg v
 rw[h];exact cJ _
theorem GN:bg (.tuple [.none,v,.bool b,.bool c])=bg v:=cJ _
theorem qo(h:Nt v):bg (.tuple [v])=bg v:=by
 show(oX [v]||(bg v||ag))=bg v
 rw[h];exact cJ _
theorem qm(h:Nt v):bg (.tuple [v,w])=(bg v||bg w):=by
 show(oX [v,w]||(bg v||(bg w||ag)))=_
 rw[h,cJ];rfl
theorem rM:Nt (.tuple xs):=λ_=>rfl
theorem HC{u:U}(h:Nt v):bg (nB u v)=(qp u||bg v):=by
 cases u with
 |y1=>rfl|yf=>rfl|call=>
  show(bg (.tuple [.tuple [v,.bool ag,.none]])||ag)=bg v
  rw[qo rM,FL h,cJ]
 |bS sp=>
  show(bg (.tuple [.tuple [.none,v,.bool ag,.bool sp]])||ag)=bg v
  rw[qo rM,GN,cJ]
 |op p x=>cases p<;>exact cJ _|_=>exact cJ _
theorem Po{q:W}(h:Nt v)(h':Nt w):bg (sr q v w)=(Cm q||(bg v||bg w)):=by
 cases q with
 |y2=>rfl|call=>
  show(bg (.tuple [.tuple [v,.bool ag,.none],.tuple [w,.bool ag,.none]])||ag)=_
  rw[qm rM,FL h,FL h',cJ];rfl
 |bS sa sb=>
  show(bg (.tuple [.tuple [.none,v,.bool ag,.bool sa],.tuple [.none,w,.bool ag,.bool sb]])||ag)=_
  rw[qm rM,GN,GN,cJ];rfl
 |dY=>
  show((bg v||(bg w||ag))||ag)=(bg v||bg w)
  rw[cJ,cJ]
 |d8=>
  show((bg v||ag)||(bg w||ag))=_
  rw[cJ,cJ];rfl
 |fW p=>
  cases p<;>
  ·show((bg v||ag)||(bg w||ag))=_
   rw[cJ,cJ];rfl
end
theorem ie{c:az}{h:ai}{e:E}(o:aL c h e):bg (ak e)=Y e:=by
 have bU:∀{x y p q:az},x=p->y=q->(x||(y||ag))=(p||q):=λh h'=>h▸h'▸ay (_||·) (cJ _)
 induction o with
 |lit q=>exact(cJ _).trans (zz q)|var q=>rfl|y0=>rfl|dW q=>rfl|un _ _ ih=>exact(HC<|Nt.ak _).trans (ay (_||·) ih)|bi _ _ aE aJ=>exact(Po (Nt.ak _)<|Nt.ak _).trans (by rw[aE,aJ];rfl)|@la _ l a b _ _ aE aJ=>
  cases l with
  |bq o=>cases o<;>exact bU aE aJ|cS=>exact bU aE aJ
 |@cN _ o a b _ _ aE aJ=>cases o<;>exact bU aE aJ|bW _ _ _ aE aJ=>exact bU aE aJ|c7 _ _ aE aJ=>exact bU aE aJ|@c6 _ a b d _ _ _ aE aJ gW=>
  show(bg (ak a)||(bg (ak b)||(bg (ak d)||ag)))=_
  rw[aE,aJ,gW,cJ];rfl
 |dz _ _ ih=>exact(cJ _).trans ih|@c8 _ a b _ _ aE aJ=>
  show((bg (ak a)||ag)||(bg (ak b)||ag))=_
  rw[aE,aJ,cJ,cJ];rfl
 |@cZ _ e w v _ hw hv ih=>
  show(bg (ak e)||(((((bg w||ag)||((bg v||ag)||ag))||(ag||ag))||(ag||ag))||ag))=Y e
  rw[zz hw,zz hv,ih]
  exact cJ _
theorem acI{c:az}{h:ai}{b:af S}(o:bR c h b):kS (av b)=YB b:=by
 have nb:∀b:af S,oX (av b)=ag:=λb=>by
  cases b with
  |nil=>rfl|cons x r=>cases x with
   |fk j=>cases j<;>rfl|_=>rfl
 have tb:∀b:af S,bg (.tuple<|av b)=kS (av b):=λb=>by
  show(oX (av b)||kS (av b))=_
  rw[nb];rfl
 have pr:∀(e:E)(b:af S),bg (.tuple [ak e,.tuple<|av b])=(bg (ak e)||kS (av b)):=λe b=>(qm<|Nt.ak e).trans (ay (_||·)<|tb b)
 refine bR.rec (motive_1:=λ_ x _=>bg (aM x)=YS x) (motive_2:=λ_ b _=>kS (av b)=YB b) ?_ ?_ ?_ ?_ ?_ ?_ ?_ ?_ ?_ ?_ ?_ ?_ ?_ ?_ ?_ ?_ o
 ·exactλoe=>(cJ _).trans (ie oe)
 ·exactλoe=>(cJ _).trans ((qo<|Nt.ak _).trans (ie oe))
 ·exactλoa ob=>(cJ _).trans ((qm<|Nt.ak _).trans (by rw[ie oa,ie ob];rfl))
 ·exactλ{_ j}=>by cases j<;>rfl
 ·exactλ{_}=>rfl
 ·exactλoe=>(cJ _).trans (ie oe)
 ·exactλ{_ b} _ ib=>(cJ _).trans ((tb b).trans ib)
 ·intro _ e b o k oe _ _ ho ib io
  cases k with
  |true=>
   show(bg (.tuple [.tuple [ak e,.tuple<|av b]])||(bg (.tuple<|av o)||ag))=_
   rw[qo rM,pr,tb,ie oe,ib,io,cJ,xR];rfl
  |false=>
   rw[ho rfl]
   show(bg (.tuple [.tuple [ak e,.tuple<|av b]])||ag)=(Y e||(YB b||ag))
   rw[qo rM,pr,ie oe,ib,cJ,cJ]
 ·intro _ e b e' b' o k oe _ ey _ _ ho ib cV io
  cases k with
  |true=>
   show(bg (.tuple [.tuple [ak e,.tuple<|av b],.tuple [ak e',.tuple<|av b']])||(bg (.tuple<|av o)||ag))=((Y e||YB b)||((Y e'||YB b')||YB o))
   rw[qm rM,pr,pr,tb,ie oe,ib,ie ey,cV,io,cJ,xR]
  |false=>
   rw[ho rfl]
   show(bg (.tuple [.tuple [ak e,.tuple<|av b],.tuple [ak e',.tuple<|av b']])||ag)=((Y e||YB b)||((Y e'||YB b')||ag))
   rw[qm rM,pr,pr,ie oe,ib,ie ey,cV,cJ,cJ]
 ·intro _ e b oe _ ib
  show(bg (ak e)||(bg (.tuple<|av b)||ag))=_
  rw[tb,ie oe,ib,cJ];rfl
 ·intro _ e b oe _ ib
  show(bg (.tuple<|av b)||(bg (ak e)||ag))=_
  rw[tb,ie oe,ib,cJ];rfl
 ·intro _ sa sb x y b oe _ ib
  show(bg (ak<|.bi (.bS sa sb) x y)||(bg (.tuple<|av b)||ag))=_
  rw[tb,ie oe,ib,cJ];rfl
 ·intro _ e x y oe _ _ ix iy
  show(bg (ak e)||((bg (.tuple<|av x)||ag)||((bg (.tuple<|av y)||ag)||ag)||ag))=_
  rw[tb,tb,ie oe,ix,iy,cJ,cJ,cJ,cJ];rfl
 ·intro _ b f _ _ ib jf
  show(bg (.tuple<|av b)||(bg (.tuple<|av f)||ag))=_
  rw[tb,tb,ib,jf,cJ];rfl
 ·exactλ{_}=>rfl
 ·exactλ_ _ _ ix ir=>by
   show(bg _||kS _)=_
   rw[ix,ir];rfl
inductive mP:E->Prop
 |y0:mP .y0
 |un {u:U} {e:E}:qp u=ae->bg (ak e)=ag->mP (.un u e)
 |bi {a b:E}:bg (ak a)=ag->bg (ak b)=ag->mP (.bi .y2 a b)
mutual
inductive mQ:S->Prop
 |no {x:S}:bg (aM x)=ag->mQ x
 |ex {e:E}:mP e->mQ (.ex e)
 |tm {t:aq} {e:E}:fu t=ae->mP e->mQ (cB t e)
 |gO {b:af S}:dG b->mQ (.gO b)
 |b9 {c:E} {b o:af S} {k:az}:bg (ak c)=ag->dG b->dG o->mQ (.b9 c b o k)
 |dH {c c':E} {b b' o:af S} {k:az}:bg (ak c)=ag->dG b->bg (ak c')=ag->dG b'->dG o->mQ (.dH c b c' b' o k)
 |cM {c:E} {b:af S}:bg (ak c)=ag->dG b->mQ (.cM c b)
 |c9 {c:E} {b:af S}:bg (ak c)=ag->dG b->mQ (.c9 b c)
 |fe {w:E} {b:af S}:bg (ak w)=ag->dG b->mQ (.fe w b)
 |sw {c:E} {x y:af S}:bg (ak c)=ag->dG x->dG y->mQ (.sw c x y)
 |tr {b f:af S}:dG b->dG f->mQ (.tr b f)
inductive dG:af S->Prop
 |nil:dG []
 |cons {x:S} {r:af S}:mQ x->dG r->dG (x::r)
end
structure Nb(d:ai)(v:V):Prop where
 b:Lb v
 d:v.depth<=d
structure mO(d:ai)(xs:af V):Prop where
 b:Ab xs
 d:mT xs<=d
 l:xs.length<=90000
section
variable{v x:V}{xs:af V}{k d:ai}
theorem Nb.l(n:Nb d (.tuple xs)):mO d xs:=⟨n.b.2,eL n.d,n.b.1⟩
theorem Nb.l1(n:Nb d (.tuple xs)):mO (d-1) xs:=⟨n.b.2,Nat.le_pred_of_lt n.d,n.b.1⟩
theorem mO.h(n:mO d (x::xs)):Nb d x:=⟨n.b.1,aj (Jl _ _) n.d⟩
theorem mO.t(n:mO d (x::xs)):mO d xs:=⟨n.b.2,aj (ai7 _ _) n.d,aj (aR _) n.l⟩
theorem mO.u(n:mO d xs):Nb (d+1) (.tuple xs):=⟨⟨n.l,n.b⟩,bG n.d⟩
theorem Nb.has{y:az}(n:Nb d v)(h:bg v=y)(hk:d+100<=k):b5 a8 k 66 [] [v] (.val<|.bool y) []:=h▸Ma v n.b k (aj (cQ n.d (aa:1<=100)) hk)
theorem lk{j:ai}(hk:d+109<=k)(h:kD j 109=ae:=by rfl):d+j<=k:=aj (bK (bJ h) d) hk
end
theorem dG.dq:∀{a b:af S},dG a->dG b->dG (a++b):=by
 intro a b oa ob
 refine dG.rec (motive_1:=λ_ _=>True) (motive_2:=λa _=>dG<|a++b) ?_ ?_ ?_ ?_ ?_ ?_ ?_ ?_ ?_ ?_ ?_ ?_ ?_ oa
 any_goals (intros;trivial)
 ·exactλh _ _ ih=>.cons h ih
theorem dG.bh{x:S}(h:mQ x):dG [x]:=.cons h .nil
section
def alT(k:ai)(v:V)(x:V)(rs:Rs)(os:Os)(K:aD V->Rs->Os->Prop):Prop:=b4 (hO (.name 1) x<|[ab<|.val v]++eW 1 aw) os λvs os=>wX (b5 a8 k) (dQ a8) (.not<|.call 67 [.var 1]) rs vs os λc rs os=>lT (fM c rs) os λc os=>match c with
 |true=>wX (b5 a8 k) (dQ a8) (.var 1) rs vs os λm rs os=>b4 (jr m rs) os λp os=>K (ab p.1) p.2 os|false=>K aw rs os
end
def lW(x:S):Prop:=∀d,Nb d (aM x)->ao (d+110) 67 [] [aM x] (.val<|.bool ae) []
def jB(b:af S):Prop:=∀d,mO d (av b)->ao (d+111) 68 [] [.tuple<|av b] (.val<|.bool ae) []
def xA(k:ai)(b:af S):Prop:=∀v,∃os,lj (alT k v) (av b) [] os λys rs _=>ys=[]/\rs=[]
theorem RF{k:ai}:xA k []:=λv=>⟨[],rfl,rfl⟩
theorem RG{k:ai}{x:S}{r:af S}(h:b5 a8 k 67 [] [aM x] (.val<|.bool ae) [])(hr:xA k r):xA k (x::r):=λv=>
 (hr v).imp' ([.call (.val<|.bool ae) [],.tr 0 ae,.tr 0 ag]++·) λos z=>cR (an h<|an (m5 ae []) (an (m5 ag []) z)) (by kernel_rfl)
theorem XX{N:ai}{b:af S}(hl:(av b).length<=90000)(h:∀k,N<=k->xA k b):ao (N+1) 68 [] [.tuple<|av b] (.val<|.bool ae) []:=
 ao.go [.cp [] [],.au 0 ae] λk hk z=>an (an (h k hk<|.tuple (av b))<|aj hl (aa:90000<=100000)) (an (show cv .eq (.own<|.ah []) (.own<|.ah []) []=ab ae from rfl) z)
theorem lr{b:af S}(h:∀d,mO d (av b)->∀k,d+110<=k->xA k b):jB b:=λd n=>XX n.l (h d n)
section
variable{d k:ai}{c c' e:E}{b b' o x y:af S}{t:aq}{q:S}
theorem ET(h:bg (aM q)=ag):lW q:=λd n=>ao.go [.call (.val<|.bool ag) []] λk hk z=>an (n.has h<|lk hk) z
theorem jI(h:∀d,Nb d (aM q)->bg (aM q)=ae->ao (d+110) 67 [] [aM q] (.val<|.bool ae) []):lW q:=λd n=>by
 cases r:bg (aM q) with
 |true=>exact h d n r|false=>exact ET r d n
theorem afG{u:U}(hu:qp u=ae)(hf:bg (ak e)=ag):lW (.ex<|.un u e):=jI λd n r=>by
 cases u with
 |y1=>exact ao.go [.call (.val<|.bool ae) [],.call (.val<|.bool ag) []] λk hk z=>an (n.has r<|lk hk) (an (n.l.t.h.l.t.u.has ((cJ _).trans hf)<|lk (j:=101) hk) z)|yf=>exact ao.go [.call (.val<|.bool ae) [],.call (.val<|.bool ag) []] λk hk z=>an (n.has r<|lk hk) (an (n.l.t.h.l.t.u.has ((qo<|Nt.ak e).trans hf)<|lk (j:=101) hk) z)|_=>cases hu
theorem VN(h:mP e):lW (.ex e):=by
 cases h with
 |y0=>exact jI λd n r=>ao.go [.call (.val<|.bool ae) [],.call (.val<|.bool ag) []] λk hk z=>an (n.has r<|lk hk) (an (n.l.t.h.l.t.u.has rfl (lk (j:=101) hk)) z)|un hu hf=>exact afG hu hf|@bi a b ha hb=>exact jI λd n r=>ao.go [.call (.val<|.bool ae) [],.call (.val<|.bool ag) []] λk hk z=>an (n.has r<|lk hk) (an (n.l.t.h.l.t.u.has ((qm<|Nt.ak a).trans (by rw[ha,hb]))<|lk (j:=101) hk) z)
theorem BY{v:V}{xs:af V}(n:Nb d (.tuple [.str lH,.tuple<|.str nV::cy t::xs])):t.length<=100000:=aj (show t.length<=90000 from n.l.t.h.l.t.h.l.t.h.b) aa
theorem VI(ht:fu t=ae)(h:mP e):lW (cB t e):=by
 cases h with
 |y0=>exact jI λd n r=>ao.go [.call (.val<|.bool ae) [],.dU 0 (.val<|.str (nu t)),.au 0 ae,.call (.val<|.bool ag) []] λk hk z=>an (n.has r<|lk hk) (an (zC<|BY (v:=.none) n)<|an ((iC (nu t) pS []).trans (ay ab ht)) (an (n.l.t.h.l.t.t.h.l.t.u.has rfl (lk (j:=101) hk)) z))|@un u e hu hf=>
  cases u with
  |y1=>exact jI λd n r=>ao.go [.call (.val<|.bool ae) [],.dU 0 (.val<|.str (nu t)),.au 0 ae,.call (.val<|.bool ag) []] λk hk z=>an (n.has r<|lk hk) (an (zC<|BY (v:=.none) n)<|an ((iC (nu t) pS []).trans (ay ab ht)) (an (n.l.t.h.l.t.t.h.l.t.u.has ((cJ _).trans hf)<|lk (j:=101) hk) z))|yf=>exact jI λd n r=>ao.go [.call (.val<|.bool ae) [],.dU 0 (.val<|.str (nu t)),.au 0 ae,.call (.val<|.bool ag) []] λk hk z=>an (n.has r<|lk hk) (an (zC<|BY (v:=.none) n)<|an ((iC (nu t) pS []).trans (ay ab ht)) (an (n.l.t.h.l.t.t.h.l.t.u.has ((qo<|Nt.ak e).trans hf)<|lk (j:=101) hk) z))|_=>cases hu
 |@bi a b ha hb=>exact jI λd n r=>ao.go [.call (.val<|.bool ae) [],.dU 0 (.val<|.str (nu t)),.au 0 ae,.call (.val<|.bool ag) []] λk hk z=>an (n.has r<|lk hk) (an (zC<|BY (v:=.none) n)<|an ((iC (nu t) pS []).trans (ay ab ht)) (an (n.l.t.h.l.t.t.h.l.t.u.has ((qm<|Nt.ak a).trans (by rw[ha,hb]))<|lk (j:=101) hk) z))
theorem jB.at(B:jB b)(n:Nb (d-1) (.tuple<|av b))(hk:d+109<=k):b5 a8 k 68 [] [.tuple<|av b] (.val<|.bool ae) []:=by
 cases d with
 |zero=>exact dk n.d (uZ _)|succ d=>
  cases d with
  |zero=>exact dk n.d (uZ _)|succ d=>exact B d ⟨n.b.2,sO n.d,n.b.1⟩ k hk
theorem VP(B:jB b):lW (.gO b):=jI λd n r=>
 ao.go [.call (.val<|.bool ae) [],.call (.val<|.bool ae) []] λk hk z=>an (n.has r<|lk hk) (an (B.at n.l1.t.h hk) z)
theorem VG(h:bg (ak c)=ag)(B:jB b):lW (.cM c b):=jI λd n r=>
 ao.go [.call (.val<|.bool ae) [],.call (.val<|.bool ag) [],.call (.val<|.bool ae) []] λk hk z=>an (n.has r<|lk hk) (an (n.l.t.h.has h<|lk hk)<|an (B.at n.l1.t.t.h hk) z)
theorem VM(h:bg (ak c)=ag)(B:jB b):lW (.fe c b):=jI λd n r=>
 ao.go [.call (.val<|.bool ae) [],.call (.val<|.bool ag) [],.call (.val<|.bool ae) []] λk hk z=>an (n.has r<|lk hk) (an (n.l.t.h.has h<|lk hk)<|an (B.at n.l1.t.t.t.t.t.h hk) z)
theorem VO(h:bg (ak c)=ag)(B:jB b):lW (.c9 b c):=jI λd n r=>
 ao.go [.call (.val<|.bool ae) [],.call (.val<|.bool ae) [],.call (.val<|.bool ag) []] λk hk z=>an (n.has r<|lk hk) (an (B.at n.l1.t.h hk)<|an (n.l.t.t.h.has h<|lk hk) z)
theorem VH(B:jB b)(B':jB b'):lW (.tr b b'):=jI λd n r=>
 ao.go [.call (.val<|.bool ae) [],.call (.val<|.bool ae) [],.call (.val<|.bool ae) []] λk hk z=>an (n.has r<|lk hk) (an (B.at n.l1.t.h hk)<|an (B'.at n.l1.t.t.t.h hk) z)
theorem afg:jB [.fk ae]:=lr λd n k hk=>RG (x:=.fk ae) (ET rfl d n.h k hk) RF
theorem FZ(hk:d+109<=k):b5 a8 k 68 [] [.tuple []] (.val<|.bool ae) []:=(show ao 1 68 [] [.tuple []] (.val<|.bool ae) [] from ao.go [] λk _ z=>z) k (aj (bY 1<|d+108) hk)
theorem VJ(h:bg (ak c)=ag)(X:jB x)(Y:jB y):lW (.sw c x y):=jI λd n r=>
 ao.go [.call (.val<|.bool ae) [],.call (.val<|.bool ag) [],.call (.val<|.bool ag) [],.call (.val<|.bool ae) [],.call (.val<|.bool ag) [],.call (.val<|.bool ae) [],.call (.val<|.bool ag) [],.call (.val<|.bool ae) [],.call (.val<|.bool ae) []] λk hk z=>an (n.has r<|lk hk) (an (n.l.t.h.has h<|lk hk)<|an (n.l.t.t.h.l.h.l.h.has rfl (lk hk)) (an (X.at n.l1.t.t.h.l.h.l.t.h hk)<|an (n.l.t.t.h.l.t.h.l.h.has rfl (lk hk)) (an (Y.at n.l1.t.t.h.l.t.h.l.t.h hk)<|an (n.l.t.t.h.l.t.t.h.l.h.has rfl (lk hk)) (an (afg.at n.l1.t.t.h.l.t.t.h.l.t.h hk)<|an (FZ hk) z))))
theorem VL{q:az}(h:bg (ak c)=ag)(B:jB b)(O:jB o):lW (.b9 c b o q):=by
 cases q with
 |true=>
  exact jI λd n r=>ao.go [.call (.val<|.bool ae) [],.call (.val<|.bool ag) [],.call (.val<|.bool ae) [],.call (.val<|.bool ae) []] λk hk z=>an (n.has r<|lk hk) (an (n.l.t.h.l.h.l.h.has h<|lk hk)<|an (B.at n.l1.t.h.l.h.l.t.h hk) (an (O.at n.l1.t.t.h hk) z))
 |false=>
  exact jI λd n r=>ao.go [.call (.val<|.bool ae) [],.call (.val<|.bool ag) [],.call (.val<|.bool ae) [],.call (.val<|.bool ae) []] λk hk z=>an (n.has r<|lk hk) (an (n.l.t.h.l.h.l.h.has h<|lk hk)<|an (B.at n.l1.t.h.l.h.l.t.h hk) (an (FZ hk) z))
theorem VK{q:az}(h:bg (ak c)=ag)(B:jB b)(h':bg (ak c')=ag)(B':jB b')(O:jB o):lW (.dH c b c' b' o q):=by
 cases q with
 |true=>
  exact jI λd n r=>ao.go [.call (.val<|.bool ae) [],.call (.val<|.bool ag) [],.call (.val<|.bool ae) [],.call (.val<|.bool ag) [],.call (.val<|.bool ae) [],.call (.val<|.bool ae) []] λk hk z=>an (n.has r<|lk hk) (an (n.l.t.h.l.h.l.h.has h<|lk hk)<|an (B.at n.l1.t.h.l.h.l.t.h hk) (an (n.l.t.h.l.t.h.l.h.has h'<|lk hk)<|an (B'.at n.l1.t.h.l.t.h.l.t.h hk) (an (O.at n.l1.t.t.h hk) z)))
 |false=>
  exact jI λd n r=>ao.go [.call (.val<|.bool ae) [],.call (.val<|.bool ag) [],.call (.val<|.bool ae) [],.call (.val<|.bool ag) [],.call (.val<|.bool ae) [],.call (.val<|.bool ae) []] λk hk z=>an (n.has r<|lk hk) (an (n.l.t.h.l.h.l.h.has h<|lk hk)<|an (B.at n.l1.t.h.l.h.l.t.h hk) (an (n.l.t.h.l.t.h.l.h.has h'<|lk hk)<|an (B'.at n.l1.t.h.l.t.h.l.t.h hk) (an (FZ hk) z)))
end
theorem Xy{b:af S}(a:dG b):jB b:=by
 refine lr (dG.rec (motive_1:=λx _=>lW x) (motive_2:=λb _=>∀d,mO d (av b)->∀k,d+110<=k->xA k b) ?_ ?_ ?_ ?_ ?_ ?_ ?_ ?_ ?_ ?_ ?_ ?_ ?_ a)
 ·exactλh=>ET h
 ·exactλh=>VN h
 ·exactλh b=>VI h b
 ·exactλ_ ib=>VP (lr ib)
 ·exactλh _ _ ib io=>VL h (lr ib) (lr io)
 ·exactλh _ h' _ _ ib cV io=>VK h (lr ib) h' (lr cV) (lr io)
 ·exactλh _ ib=>VG h (lr ib)
 ·exactλh _ ib=>VO h (lr ib)
 ·exactλh _ ib=>VM h (lr ib)
 ·exactλh _ _ ix iy=>VJ h (lr ix) (lr iy)
 ·exactλ_ _ ib cV=>VH (lr ib) (lr cV)
 ·exactλ_ _ _ _=>RF
 ·exactλ_ _ ix ir d n k hk=>RG (ix d n.h k hk) (ir d n.t k hk)
def Cl(h:H):Prop:=dG h.o/\bg (ak h.e)=ag
section
variable{h:H}{x e a b c:E}{k n:ai}{o:af S}{t:aq}{v w:V}
theorem zX(h:bg (ak e)=ag):dG [cB t e]:=.bh (.no<|(cJ _).trans ((HC (u:=.aN t)<|Nt.ak e).trans h))
theorem Cl.keep{late:az}(q:Cl h):Cl (keep late h):=aO Cl (λ_=>q) λ_=>⟨q.1.dq (zX q.2),rfl⟩
theorem Cl.pr{F:E->E->E}{late yb:az}{b':E}{hb:ai->H}(hF:∀x y,bg (ak x)=ag->bg (ak y)=ag->bg (ak<|F x y)=ag)(q:Cl h)(q':∀k,Cl<|hb k)(hy:yb=ag->bg (ak b')=ag):Cl (pr F late yb b' h hb):=by
 cases yb with
 |true=>exact⟨(q.keep (late:=late)).1.dq (q' _).1,hF _ _ q.keep.2 (q' _).2⟩|false=>exact⟨q.1,hF _ _ q.2<|hy rfl⟩
theorem KA(hc:bg (ak c)=ag)(ho:dG o):dG [eA c o]:=.bh (.b9 hc ho .nil)
theorem Cl.d7{o1:af S}{x1 x2:E}(h1:dG o1)(e1:bg (ak x1)=ag)(hc:bg (ak c)=ag)(h2:dG h.o)(e2:bg (ak x2)=ag):Cl (d7 n o1 x1 c h x2):=⟨(h1.dq<|zX e1).dq (KA hc<|h2.dq (zX e2)),rfl⟩
theorem FT:bg (ak<|gq t)=ag:=rfl
theorem sV{p q:az}(h:p=ag)(h':q=ag):(p||(q||ag))=ag:=by rw[h,h'];rfl
theorem Om{l:L}(h:bg (ak a)=ag)(h':bg (ak b)=ag):bg (ak<|.la l a b)=ag:=by
 cases l with
 |bq o=>cases o<;>exact sV h h'|cS=>exact sV h h'
theorem ahe{q:az}(h:bg (ak a)=ag)(h':bg (ak b)=ag):bg (ak<|.cN q a b)=ag:=by cases q<;>exact sV h h'
theorem vJ{q:W}(hq:Cm q=ag)(h:bg (ak a)=ag)(h':bg (ak b)=ag):bg (ak<|.bi q a b)=ag:=(Po (Nt.ak a)<|Nt.ak b).trans (by rw[hq,h,h'];rfl)
theorem rq{q:U}(hq:qp q=ag)(h:bg (ak a)=ag):bg (ak<|.un q a)=ag:=(HC<|Nt.ak a).trans (by rw[hq,h];rfl)
theorem aeL(h:bg (ak a)=ag):bg (ak<|fT a)=ag:=aO (λx:E=>bg (ak x)=ag) (λ_=>h) λ_=>rq rfl h
theorem Cl.cast(q:Cl h):Cl (ij x h):=aO Cl (λ_=>q) λ_=>⟨q.1,rq rfl q.2⟩
theorem Cl.s8{s:az}(q:Cl h):Cl (kL s h):=aO Cl (λ_=>⟨q.1,rq rfl q.2⟩) λ_=>q
theorem aca(h:bg (ak a)=ag)(h':bg (ak b)=ag)(fv:bg (ak c)=ag):bg (ak<|.c6 a b c)=ag:=by
 show(bg (ak a)||(bg (ak b)||(bg (ak c)||ag)))=ag
 rw[h,h',fv];rfl
theorem ads(h:bg (ak a)=ag)(h':bg (ak b)=ag):bg (ak<|.c8 a b)=ag:=by
 show((bg (ak a)||ag)||(bg (ak b)||ag))=ag
 rw[h,h'];rfl
end
theorem Cl.ME{h:H}{b':E}{late yb:az}{hb:ai->H}(q:Cl h)(q':∀k,Cl<|hb k)(hy:yb=ag->bg (ak b')=ag):dG (L.pr (E.bi .y2) late yb b' h hb).o/\mP (L.pr (E.bi .y2) late yb b' h hb).e:=by
 cases yb with
 |true=>exact⟨(q.keep (late:=late)).1.dq (q' _).1,mP.bi q.keep.2 (q' _).2⟩|false=>exact⟨q.1,mP.bi q.2<|hy rfl⟩
theorem EI{k:ai}{h:H}(o:dG h.o)(b:mP h.e):Cl (kH k h):=⟨o.dq (.bh<|.tm (oI k) b),rfl⟩
theorem aau{e:E}{w v:V}(h:bg (ak e)=ag)(hw:dr 0 w)(hv:dr 0 v):bg (ak<|.cZ e w v)=ag:=by
 show(bg (ak e)||(((((bg w||ag)||((bg v||ag)||ag))||(ag||ag))||(ag||ag))||ag))=ag
 rw[zz hw,zz hv,h];rfl
theorem gC{h:ai}{e:E}(o:aL ae h e):∀n,Cl (hv e n):=by
 have z:∀{h n:ai}{e:E},aL ae h e->Y e=ag->Cl ⟨e,n,[]⟩:=λo q=>⟨.nil,(ie o).trans q⟩
 have N:∀{h:ai}{e:E},aL ae h e->¬Y e=ae->bg (ak e)=ag:=λo q=>(ie o).trans (cz.mpr q)
 have N':∀{h:ai}{e:E},aL ae h e->Y e=ag->bg (ak e)=ag:=λo q=>(ie o).trans q
 induction o with
 |lit q=>exactλn=>z (h:=0) (.lit q) rfl|var q=>exactλn=>z (h:=0) (.var q) rfl|y0=>exactλn=>EI .nil .y0|dW q=>exactλn=>z (h:=0) (.dW q) rfl|@un h u e hu oe ih=>exactλn=>aO Cl (λq=>EI (h:=⟨.un u (hv e<|n+1).e,(hv e<|n+1).n,(hv e<|n+1).o⟩) (ih _).1<|.un q (ih _).2) λq=>⟨(ih n).1,rq (cz.mpr q) (ih n).2⟩
 |@bi h w a b oa ob aE aJ=>
  intro n
  cases w with
  |y2=>exact have q:=(aE<|n+1).ME (late:=ag) (yb:=Y b) aJ (N' ob);EI q.1 q.2|bS sa sb=>exact(aE n).s8.pr (λx y=>vJ rfl) aJ (N' ob)|dY=>exact aO Cl (λ_=>(aE n).cast.pr (λx y=>vJ rfl) (λk=>(aJ k).cast) λq=>aeL<|N' ob q) λq=>z (.bi oa ob) (cz.mpr q)|call=>exact(aE n).pr (λx y=>vJ rfl) aJ (N' ob)|d8=>exact(aE n).pr (λx y=>vJ rfl) aJ (N' ob)|fW p=>exact(aE n).pr (λx y=>vJ rfl) aJ (N' ob)
 |la oa ob aE aJ=>exactλn=>(aE n).pr (λx y=>Om) aJ (N' ob)|@cN h q a b oa ob aE aJ=>exactλn=>aO Cl (λ_=>Cl.d7 (aE _).1 (rq rfl (aE _).2) (aO (λc:E=>bg (ak c)=ag) (λ_=>rfl) λ_=>rfl) (aJ _).1<|rq rfl (aJ _).2) λr=>⟨(aE n).1,ahe (aE n).2<|N ob r⟩
 |@bW h a b oa ob _ aE aJ=>exactλn=>aO Cl (λ_=>Cl.d7 (aE _).1 (sV (aE _).2 rfl:bg (ak<|.bW _ (.lit .none))=ag) FT (aJ _).1 (aJ _).2) λr=>⟨(aE n).1,sV (aE n).2<|N ob r⟩
 |@c7 h a b oa ob aE aJ=>exactλn=>aO Cl (λ_=>Cl.d7 (c:=.un .nt<|.var (aG<|n+1)) (aE _).1 (aE _).2 rfl (aJ _).1 (aJ _).2) λr=>⟨(aE n).1,sV (aE n).2<|N ob r⟩
 |@c6 h a b d oa ob od aE aJ gW=>
  exactλn=>aO Cl (λ_=>⟨(aE _).1.dq (.bh<|.b9 (aE _).2 ((aJ _).1.dq<|zX (aJ _).2) ((gW _).1.dq<|zX (gW _).2)),rfl⟩) λr=>
   have r:=gT (cz.mpr r)
   ⟨(aE n).1,aca (aE n).2 (N' ob r.1)<|N' od r.2⟩
 |@dz h x e q oe ih=>exactλn=>aO Cl (λ_=>Cl.d7 (x1:=.bW (.var x)<|.lit .none) .nil rfl FT (ih _).1<|rq rfl (ih _).2) λr=>z (.dz q oe) (cz.mpr r)|@c8 h a b oa ob aE aJ=>
  exactλn=>aO Cl (λ_=>have k:=(aE<|n+1).keep (late:=ag);Cl.d7 (x1:=.bW (.la .cS (.var bz) _)<|.lit .none) k.1 (sV (Om rfl k.2) rfl) FT (aJ _).1 (vJ rfl k.2 (aJ _).2)) λr=>⟨(aE n).1,ads (aE n).2<|N ob r⟩
 |cZ oe hw hv ih=>exactλn=>⟨(ih n).1,aau (ih n).2 hw hv⟩
theorem afL{h:ai}{e:E}(o:aL ae h e)(hy:ia e=ae)(n:ai):dG (fR e n).o/\mP (fR e n).e:=
 aL.AI (P:=λ_ e=>dG (fR e n).o/\mP (fR e n).e) (λ_=>⟨.nil,.y0⟩) (λ_ u e q _ oe=>⟨(gC oe n).1,.un q (gC oe n).2⟩) (λ_ a b oa ob=>(gC oa n).ME (gC ob) λq=>(ie ob).trans q) o hy
theorem acN{h:ai}{b:af S}(o:bR ae h b):∀n,dG (hB b n).1:=by
 have N:∀{h:ai}{e:E},aL ae h e->¬Y e=ae->bg (ak e)=ag:=λo q=>(ie o).trans (cz.mpr q)
 have L:∀{h:H},Cl h->dG (h.o++[gn h.e]):=λq=>q.1.dq (KA (rq rfl q.2)<|.bh (.no rfl))
 refine bR.rec (c:=ae) (motive_1:=λ_ x _=>∀n,dG (h1 x n).1) (motive_2:=λ_ b _=>∀n,dG (hB b n).1) ?_ ?_ ?_ ?_ ?_ ?_ ?_ ?_ ?_ ?_ ?_ ?_ ?_ ?_ ?_ ?_ o
 ·intro _ e oe n
  refine aO (λp:af S×ai=>dG p.1) (λ_=>?_) λq=>.bh (.no<|(cJ _).trans (N oe q))
  refine aO (λp:af S×ai=>dG p.1) (λq=>?_) λ_=>?_
  ·exact have a:=afL oe q n;a.1.dq (.bh<|.ex a.2)
  ·exact(gC oe n).1.dq (aO dG (λ_=>.nil) λ_=>.bh<|.no ((cJ _).trans (gC oe n).2))
 ·exactλoe n=>(gC oe n).1.dq (.bh<|.no ((cJ _).trans ((qo<|Nt.ak _).trans (gC oe n).2)))
 ·intro _ a b oa ob n
  have E:∀{h:H},Cl h->dG (h.o++[.dT h.e]):=λq=>q.1.dq (.bh<|.no ((cJ _).trans ((qo<|Nt.ak _).trans q.2)))
  refine aO (λp:af S×ai=>dG p.1) (λ_=>(E<|gC oa n).dq<|E (gC ob _)) λq=>?_
  have q:=gT (cz.mpr q)
  exact .bh (.no<|(cJ _).trans ((qm<|Nt.ak a).trans (by rw[ie oa,ie ob,q.1,q.2];rfl)))
 ·exactλ{_ j} n=>.bh (.no<|by cases j<;>rfl)
 ·exactλn=>.bh (.no rfl)
 ·exactλoe n=>(gC oe n).1.dq (.bh<|.no ((cJ _).trans (gC oe n).2))
 ·exactλ_ ib n=>.bh (.gO<|ib n)
 ·exactλoe _ _ _ ib io n=>(gC oe n).1.dq (.bh<|.b9 (gC oe n).2 (ib _) (io _))
 ·exactλoe _ ey _ _ _ ib cV io n=>aO (λp:af S×ai=>dG p.1) (λ_=>(gC oe n).1.dq<|.bh (.b9 (gC oe n).2 (ib _)<|(gC ey _).1.dq (.bh<|.b9 (gC ey _).2 (cV _) (io _)))) λq=>(gC oe n).1.dq (.bh<|.dH (gC oe n).2 (ib _) (N ey q) (cV _) (io _))
 ·exactλoe _ ib n=>aO (λp:af S×ai=>dG p.1) (λ_=>.bh<|.cM rfl ((L<|gC oe n).dq<|ib _)) λq=>.bh (.cM (N oe q)<|ib n)
 ·exactλoe _ ib n=>aO (λp:af S×ai=>dG p.1) (λ_=>.cons (.no rfl)<|.bh (.cM rfl (.cons (.b9 rfl (L<|gC oe _) .nil)<|.cons (.no rfl) (ib _)))) λq=>.bh (.c9 (N oe q)<|ib n)
 ·exactλoe _ ib n=>(gC oe n).1.dq (.bh<|.fe (gC oe n).2 (ib _))
 ·exactλoe _ _ ix iy n=>(gC oe _).1.dq (.bh<|.sw (gC oe _).2 (ix _) (iy _))
 ·exactλ_ _ ib jf n=>.bh (.tr (ib _)<|jf _)
 ·exactλn=>.nil
 ·exactλ_ _ _ ix ir n=>(ix n).dq (ir _)
structure Step(K:ai)(s t:St):Prop where
 n:t.n<=s.n+K
 c:∀j,t.val (cP j)=s.val (cP j)
theorem aeK(k:ai):cP k∉gX:=λh=>by
 have hd:∀x∈gX,x.cps.toList.head?≠ab 105:=aa
 exact hd _ h (ay List.head?<|zM k)
theorem aeJ{i j:ai}(h:cP i=cP j):i=j:=
 have h1:=(zM i).symm.trans ((ay (λs:aq=>s.cps.toList) h).trans (zM j))
 ai1.mp (show Ji i=Ji j from ahv.mp<|Gf (λ_ _ e=>Tu.mp e) (Jt h1).2)
section
variable{K K':ai}{s t u:St}{x:aq}{v w:V}
theorem Step.refl(s:St):Step 0 s s:=⟨aF _,λ_=>rfl⟩
theorem Step.trans(a:Step K s t)(b:Step K' t u):Step (K+K') s u:=⟨aj b.n (aj (dP a.n K')<|bA (fg _ _ _)),λj=>(b.c j).trans (a.c j)⟩
theorem Step.le(a:Step K s t)(h:K<=K'):Step K' s t:=⟨aj a.n (bK h _),a.c⟩
theorem Step.bI(a:Step K s t)(hx:x∈gX):Step K s (t.bI x v):=⟨a.n,λj=>(wC λe:cP j=x=>aeK j<|e.symm▸hx).trans (a.c j)⟩
theorem H4:bz∈gX:=aa
theorem Step.eH(a:Step K s t):Step K s (t.eH w v):=a.bI H4
theorem Step.up(a:Step K s t)(h:u.vars=t.vars)(hn:u.n<=t.n+1):Step (K+1) s u:=⟨aj hn (bG a.n),λj=>(ay (Jp<|cP j) h).trans (a.c j)⟩
theorem Step.rd(a:Step K s t):Step (K+1) s (t.rd x):=a.up (E8 t x) (aO (λu:St=>u.n<=t.n+1) (λ_=>aR _) λ_=>aF _)
def U5:U->Prop
 | .aN x=>x∈gX| .op _ x=>x∈gX|_=>True
theorem U5.ok{q:U}(h:U5 q):nJ ae q:=by
 cases q with
 |aN x=>exact .inl h|op p x=>exact .inl h|_=>trivial
theorem C1{q:U}(h:U5 q)(v:V)(a:Step K s t):Step (K+1) s (eO q v t).2:=by
 cases q with
 |aN x=>exact(a.bI h).le (aR K)|op p x=>exact a.rd.bI h|y1=>exact a.up rfl (aF _)|yf=>exact a.up rfl (aF _)|call=>exact a.up rfl (aF _)|jP=>exact a.up rfl (aF _)|_=>exact a.le (aR K)
theorem ahd(q:W)(v w:V)(a:Step K s t):Step (K+1) s (fG q v w t).2:=by
 cases q with
 |d8=>exact a.eH.le (aR K)|fW p=>exact a.rd.eH|y2=>exact a.up rfl (aF _)|call=>exact a.up rfl (aF _)|_=>exact a.le (aR K)
end
structure DE(h t:ai)(e:E):Prop where
 ok:aL ae h e
 l:tE e<=t
 a6:∀s,Step (2*t) s (ev e s).2
section
variable{h t:ai}{a b c e:E}{x:aq}{u:U}
theorem yV:1<=3*t+2:=by omega
theorem F5(h:tE e<=t):tE e+4<=3*t+2:=by
 have:1<=tE e:=by cases e<;>exact bG (bQ _)
 omega
theorem wM(h:tE a<=t)(h':tE b<=t):tE a+tE b+3<=3*t+2:=by
 have:1<=tE a:=by cases a<;>exact bG (bQ _)
 omega
theorem aam(h:tE a<=t)(h':tE b<=t)(fv:tE c<=t):tE a+tE c+tE b+2<=3*t+2:=by omega
theorem GH{i:ai}(h:i<=4:=by decide):2*t+i<=2*(3*t+2):=by omega
theorem t5{i:ai}(h:i<=4:=by decide):2*t+2*t+i<=2*(3*t+2):=by omega
theorem Ce{i:ai}(h:i<=4:=by decide):0+i<=2*(3*t+2):=by omega
theorem Nm.f(h:x∈gX):Nm ae x:=.inl h
theorem DE.lit{d:V}(f:dr 0 d):DE h (3*t+2) (.lit d):=⟨.lit f,yV,λs=>(Step.refl s).le<|bQ _⟩
theorem DE.var(hx:x∈gX):DE h (3*t+2) (.var x):=⟨.var (.f hx),yV,λs=>(Step.refl s).rd.le Ce⟩
theorem DE.y0:DE h (3*t+2) .y0:=⟨.y0,yV,λs=>((Step.refl s).up (u:=(ev .y0 s).2) rfl (aF _)).le Ce⟩
theorem DE.CV(hx:x∈gX):DE (h+1) (3*t+2) (.un .call<|.var x):=⟨.un trivial (.var<|.f hx),bY 2 _,λs=>(C1 (q:=.call) trivial _ (Step.refl s).rd).le<|Ce (i:=2)⟩
theorem DE.dW{p:az}(hx:x∈gX):DE h (3*t+2) (.dW p x):=⟨.dW (.f hx),yV,λs=>(((Step.refl s).rd (x:=x)).bI hx |>.up (u:=(ev (.dW p x) s).2) rfl (aF _)).le<|Ce (i:=2)⟩
theorem DE.un(g:DE h t e)(h5:U5 u):DE (h+1) (3*t+2) (.un u e):=⟨.un (h5.ok) g.ok,aj (bK (aa:1<=4) _) (F5 g.l),λs=>(C1 h5 _ (g.a6 s)).le GH⟩
theorem DE.bi{w:W}(g:DE h t a)(g':DE h t b):DE (h+1) (3*t+2) (.bi w a b):=⟨.bi g.ok g'.ok,wM g.l g'.l,λs=>(ahd w _ _ ((g.a6 s).trans (g'.a6 _))).le t5⟩
theorem DE.la{l:L}(g:DE h t a)(g':DE h t b):DE (h+1) (3*t+2) (.la l a b):=⟨.la g.ok g'.ok,eL (wM g.l g'.l),λs=>Step.le (aO (λp:V×St=>Step (2*t+2*t) s p.2) (λ_=>(g'.a6 s).trans (g.a6 _)) λ_=>(g.a6 s).trans (g'.a6 _))<|t5 (i:=0)⟩
theorem Gd{s:St}{p:Prop}[Decidable p]{x y:V×St}{K K':ai}(h:Step K s x.2)(h':Step K' x.2 y.2):Step (K+K') s (if p then x else y).2/\Step (K+K') s (if p then y else x).2:=
 have l:=h.le (aW K K');have r:=h.trans h'
 ⟨aO (λp:V×St=>Step (K+K') s p.2) (λ_=>l) λ_=>r,aO (λp:V×St=>Step (K+K') s p.2) (λ_=>r) λ_=>l⟩
theorem DE.cN{o:az}(g:DE h t a)(g':DE h t b):DE (h+1) (3*t+2) (.cN o a b):=⟨.cN g.ok g'.ok,eL (wM g.l g'.l),λs=>(Gd (x:=(mU o,(ev a s).2)) (y:=(mU (bF (ev b (ev a s).2).1),(ev b (ev a s).2).2)) (g.a6 s)<|g'.a6 _).1.le<|t5 (i:=0)⟩
theorem DE.bW(g:DE h t a)(g':DE h t b)(f6:lN a=ag):DE (h+1) (3*t+2) (.bW a b):=
 ⟨.bW g.ok g'.ok λ_=>f6.symm▸Tw _,eL (wM g.l g'.l),λs=>
  (Gd (aO (λp:V×St=>Step (2*t) s p.2) (λ_=>(Step.refl s).le<|bQ _) λ_=>g.a6 s)<|g'.a6 _).2.le (t5 (i:=0))⟩
theorem DE.c7(g:DE h t a)(g':DE h t b):DE (h+1) (3*t+2) (.c7 a b):=⟨.c7 g.ok g'.ok,eL (wM g.l g'.l),λs=>(Gd (g.a6 s)<|g'.a6 _).1.le<|t5 (i:=0)⟩
theorem DE.c6(g:DE h t a)(g':DE h t b)(HL:DE h t c):DE (h+1) (3*t+2) (.c6 a b c):=
 ⟨.c6 g.ok g'.ok HL.ok,aam g.l g'.l HL.l,λs=>(aO (λp:V×St=>Step (2*t+2*t) s p.2) (λ_=>(g.a6 s).trans (g'.a6 _)) λ_=>(g.a6 s).trans (HL.a6 _)).le<|t5 (i:=0)⟩
theorem DE.dz(hx:x∈gX)(g:DE h t e):DE (h+1) (3*t+2) (.dz x e):=
 ⟨.dz (.f hx) g.ok,aj (bK (aa:2<=4) _) (F5 g.l),λs=>(aO (λp:V×St=>Step (2*t) s p.2) (λ_=>(g.a6 s).bI hx) λ_=>(Step.refl s).le<|bQ _).le<|GH (i:=0)⟩
theorem DE.c8(g:DE h t a)(g':DE h t b):DE (h+1) (3*t+2) (.c8 a b):=
 ⟨.c8 g.ok g'.ok,wM g.l g'.l,λs=>Step.le (aO (λp:V×St=>Step (2*t+2*t) s p.2) (λ_=>((g.a6 s).trans (g'.a6 _)).eH) λ_=>(g.a6 s).le (aW _ _):Step (2*t+2*t) s (ev (.c8 a b) s).2)<|t5 (i:=0)⟩
theorem NX{s:St}{P Q:Prop}[Decidable P][Decidable Q]{α:Type}{x y z:α}{q:aq}:Step 2 s (if P then(x,s.rd q) else if Q then(y,(s.rd q).rd q) else(z,(s.rd q).rd q)).2:=
 have r:=(Step.refl s).rd (x:=q)
 aO (λp:α×St=>Step 2 s p.2) (λ_=>r.le aa) λ_=>aO (λp:α×St=>Step 2 s p.2) (λ_=>r.rd) λ_=>r.rd
theorem DE.cZ{w v:V}(g:DE h t e)(hw:dr 0 w)(hv:dr 0 v):DE (h+1) (3*t+2) (.cZ e w v):=
 ⟨.cZ g.ok hw hv,F5 g.l,λs=>aO (λp:V×St=>Step (2*(3*t+2)) s p.2) (λ_=>NX.le<|lA 2 yV) λ_=>(g.a6 s).le<|GH (i:=0)⟩
end
noncomputable def gP(xs:af V):Prop:=∃(n:aH)(bs:af aH),xs=.int n::bs.map .int/\bs.length<=1000
noncomputable def ou(P:ai->Prop):ai->Prop
 |0=>True|n+1=>ou P n/\P n
theorem ou.get{P:ai->Prop}:∀{n:ai},ou P n->∀{i:ai},i<n->P i
 |n+1,a,i,h=>(Nat.lt_or_eq_of_le<|Nat.le_of_lt_succ h).elim a.1.get λe=>e▸a.2
section
variable{m n b:aH}{xs:af V}
theorem F9(h:0<m):ky .jR (.int n) (.int m)=ab (.val<|.int (n%m)):=a9 h
theorem PX(h:0<m)(h':m<=1000000):ky .fdiv (.int n) (.int m)=ab (.val<|.int (n/m)):=a9 ⟨h,h'⟩
theorem aa1{bs:af aH}(h:bs.length<=1000):(bs.map iq).length<=99998:=aj (bA<|iF _) (aj h aa)
theorem MH{k:ai}(h:k+1<=100000):lI 0 (k+1)=ab 0:=BL aa (oA.mpr<|sN k) h
theorem OW{x:V}(h:xs.length+1<=100000):e9 (.ref 0) (.int 0) [.ah<|x::xs]=ab (.val x):=
 ay (λo:aD ai=>(o.bind λj=>(x::xs)[j]?).map MV.val) (MH h)
theorem Wv{x v:V}(h:xs.length+1<=100000):rC (.ref 0) (.int 0) v [.ah<|x::xs]=ab [.ah<|v::xs]:=
 ay (λo:aD ai=>o.map λp=>[bP.ah<|(x::xs).set p v]) (MH h)
theorem acO(k:ai)(rs:Rs):cv .gt (.val<|.int ((k+2:ai):aH)) (.val<|.int 1) rs=ab ae:=ay ab (gQ<|oA.mpr (aiZ<|sN k))
theorem YM{x y:V}(h:xs.length+2<=100000):iQ .nW (.ref 0) [.val<|.int 1] [.ah<|x::y::xs]=ab (.val y,[.ah<|x::xs]):=a9 ⟨h,aa⟩
theorem Va(h:0<m)(h':m<=1000000):ao 1 40 [.ah [.int n]] [.int m] (.val<|.int ((0+n)%m)) [.ah [.int<|n/m]]:=
 ao.go [.bq 1 (.val<|.int ((0+n)%m)),.bq 0<|.val (.int<|n/m)] λk _ z=>an (F9 (n:=0+n) h) (an (PX (n:=n) h h') z)
theorem U9(h:0<m)(h':m<=1000000)(l:xs.length<=99998):ao 1 40 [.ah<|.int n::.int b::xs] [.int m] (.val<|.int ((b+n)%m)) [.ah<|.int (n/m)::xs]:=
 have l1:=aj (bG l) aa
 ao.go [.bi 0 (.val<|.int ((xs.length+2:ai):aH)),.au 0 ae,.bw 0 (.val<|.int b) [.ah<|.int n::xs],.aK 0 (.val<|.int n),.bq 1 (.val<|.int ((b+n)%m)),.aK 0 (.val<|.int n),.bq 0 (.val<|.int (n/m)),.set 0 [.ah<|.int (n/m)::xs]] (λk _ z=>an (y7 (xs:=.int n::.int b::xs)<|bG (bG l))<|an (acO xs.length [.ah<|.int n::.int b::xs]) (an (YM (x:=.int n) (y:=.int b)<|bG (bG l))
   (an (OW (x:=.int n) l1)<|an (F9 (n:=b+n) h) (an (OW (x:=.int n) l1)<|an (PX (n:=n) h h') (an (Wv (x:=.int n) (v:=.int<|n/m) l1) z)))))
end
theorem Nq{x m:aH}(h:0<m):∃i:ai,i<m.toNat/\x%m=i:=
 ⟨(x%m).toNat,(Tp<|AG x (AD h)).mpr (Tt (DW x h)<|AF (vd<|vf h).symm),(vd<|AG x (AD h)).symm⟩
theorem rE{xs:af V}(m:aH)(h:0<m)(h':m<=1000000)(p:gP xs):∃i ys,i<m.toNat/\gP ys/\ao 1 40 [.ah xs] [.int m] (.val<|.int (i:ai)) [.ah ys]:=by
 obtain⟨n,bs,rfl,l⟩:=p
 cases bs with
 |nil=>exact(Nq (x:=0+n) h).elim λi q=>⟨i,_,q.1,⟨n/m,[],rfl,bQ _⟩,q.2▸Va h h'⟩
 |cons b bs=>exact(Nq (x:=b+n) h).elim λi q=>⟨i,_,q.1,⟨n/m,bs,rfl,eL l⟩,q.2▸U9 h h' (aa1<|eL l)⟩
theorem abJ{w:ai}(h:w<5):∃d,dr 0 d/\e9 (.own<|.ah [.int 0,.int 1,.int 2,.str rG,.none]) (.int w) []=ab (.val d):=
 ou.get (P:=λw=>∃d,dr 0 d/\e9 (.own<|.ah [.int 0,.int 1,.int 2,.str rG,.none]) (.int w) []=ab (.val d)) (n:=5)
  ⟨⟨⟨⟨⟨trivial,.int 0,gS 0 0 aa,rfl⟩,.int 1,gS 0 1 aa,rfl⟩,.int 2,gS 0 2 aa,rfl⟩,.str rG,⟨aa,aa⟩,rfl⟩,.none,trivial,rfl⟩ h
section
def aeH:bP:=.fb [(i9,.str rF),(gB,.str BD),(ew,.str tA),(wj,.str Fe)]
def dOp:bP:=.fb [(i9,.str rF),(gB,.str tA),(ew,.str pR),(wj,.str pR)]
def kg:aD az->aq
 |none=>pR|some p=>FC p
end
structure Nx(m:ai)(x:aq)(ba bb p:az)(o:O)(q:aD az):Prop where
 f:x∈gX
 i:e9 (.val<|.str Fu) (.int m) []=ab (.val<|.str x)
 a:dM x i9=ba
 b:dM x gB=bb
 m:ky .jR (.int m) (.int 2)=ab (.val<|.int (if p then 1 else 0))
 s:e9 (.own aeH) (.str x) []=ab (.val<|.str o.i7)
 o:e9 (.own dOp) (.str x) []=ab (.val<|.str (kg q))
theorem abI{m:ai}(h:m<4):∃x ba bb p o q,Nx m x ba bb p o q:=
 ou.get (P:=λm=>∃x ba bb p o q,Nx m x ba bb p o q) (n:=4)
  ⟨⟨⟨⟨trivial,i9,ae,ag,ag,.add,ab ae,aa,rfl,rfl,rfl,rfl,rfl,rfl⟩,gB,ag,ae,ae,.lt,ab ag,aa,rfl,rfl,rfl,rfl,rfl,rfl⟩,ew,ag,ag,ag,.lq,aw,aa,rfl,rfl,rfl,rfl,rfl,rfl⟩,wj,ag,ag,ae,.xf,aw,aa,rfl,rfl,rfl,rfl,rfl,rfl⟩ h
section
def yG(f s:V)(x:aq)(ba bb:az)(o:aq)(q:aq):bP:=.jg [
 (5,sr .y2 f s),(6,.tuple [.str wz,.str o,f,s]),(7,sr .call f s),(9,.tuple [.str wA,f,s]),(10,.tuple [.str yM,f,s]),(12,.tuple [.str wx,f,s]),
 (13,sr (.bS ba bb) f s),(15,sr .dY f s),(16,.tuple [.str kc,if ba then f else cy bz,s]),(17,sr .d8 f s),(24,.tuple [.str wx,cy x,f]),
 (18,.tuple [.str jO,.str q,cy x,f]),(25,.tuple [.str jO,.str (if ba then rF else pR),iR f,s])]
end
section
variable{kd d d':aH}{n m:ai}{xs ys:af V}{f s v:V}{x:aq}{ba bb p:az}{o:O}{q:aD az}{e:E}
structure Dn(d d':aH):Prop where
 g:cv .gt (.val<|.int d) (.val<|.int 0) []=ab ae
 e:cv .eq (.val<|.int d) (.val<|.int 0) []=ab ag
 s:ky .sub (.int d) (.int 1)=ab (.val<|.int d')
theorem Y3(N:Nx m x ba bb p o q)(D:Dn d d')(h2:ao n 42 [.ah xs] [.int d'] (.val s) [.ah ys])
  (mD:cv .dt (.val<|.int kd) (.own<|.ah [.int 12,.int 24]) []=ab ag)(mE:cv .eq (.val<|.int kd) (.val<|.int 11) []=ab ag)
  (hr:e9 (.own<|yG f s x ba bb o.i7 (kg q)) (.int kd) []=ab (.val v)):ao (n+1) 43 [.ah xs] [.int kd,.int d,cy x,f] (.val v) [.ah ys]:=by
 have a:=(iC x i9 [.ah ys]).trans (ay ab N.a)
 have b:=(iC x gB [.ah ys]).trans (ay ab N.b)
 cases ba with
 |true=>
  exact ao.go [.bq 0 (.val<|.int d'),.call (.val s) [.ah ys],.au 0 ag,.aK 1 (.val<|.str o.i7),.au 0 ae,.au 0 bb,.au 0 ae,.aK 0 (.val<|.str (kg q)),.au 0 ae,.au 0 ag,.aK 0<|.val v] λk hk z=>an D.s (an (h2 k hk)<|an mD (an N.s<|an a (an b<|an a (an N.o<|an a (an mE<|an hr z)))))
 |false=>
  exact ao.go [.bq 0 (.val<|.int d'),.call (.val s) [.ah ys],.au 0 ag,.aK 1 (.val<|.str o.i7),.au 0 ag,.au 0 bb,.au 0 ag,.aK 0 (.val<|.str (kg q)),.au 0 ag,.au 0 ag,.aK 0<|.val v] λk hk z=>an D.s (an (h2 k hk)<|an mD (an N.s<|an a (an b<|an a (an N.o<|an a (an mE<|an hr z)))))
theorem Y6(N:Nx m x ba bb p o q)(D:Dn d d')(h2:ao n 42 [.ah xs] [.int d'] (.val s) [.ah ys])(h:lN e=ae)
  (mD:cv .dt (.val<|.int kd) (.own<|.ah [.int 12,.int 24]) []=ab ae)(mE:cv .eq (.val<|.int kd) (.val<|.int 11) []=ab ag)
  (hr:e9 (.own<|yG (cy bz) s x ba bb o.i7 (kg q)) (.int kd) []=ab (.val v)):ao (n+1) 43 [.ah xs] [.int kd,.int d,cy x,ak e] (.val v) [.ah ys]:=by
 have a:=(iC x i9 [.ah ys]).trans (ay ab N.a)
 have b:=(iC x gB [.ah ys]).trans (ay ab N.b)
 have i:=i0 e [.ah ys]
 have c:=(iC (hd<|ak e) kc [.ah ys]).trans (ay ab<|(nd e).di.trans h)
 cases ba with
 |true=>
   exact ao.go [.bq 0 (.val<|.int d'),.call (.val s) [.ah ys],.au 0 ae,.aK 0 (.val<|.str (hd<|ak e)),.au 0 ae,.aK 1 (.val<|.str o.i7),.au 0 ae,.au 0 bb,.au 0 ae,.aK 0 (.val<|.str (kg q)),.au 0 ae,.au 0 ag,.aK 0<|.val v] λk hk z=>an D.s (an (h2 k hk)<|an mD (an i<|an c (an N.s<|an a (an b<|an a (an N.o<|an a (an mE<|an hr z))))))
 |false=>
   exact ao.go [.bq 0 (.val<|.int d'),.call (.val s) [.ah ys],.au 0 ae,.aK 0 (.val<|.str (hd<|ak e)),.au 0 ae,.aK 1 (.val<|.str o.i7),.au 0 ag,.au 0 bb,.au 0 ag,.aK 0 (.val<|.str (kg q)),.au 0 ag,.au 0 ag,.aK 0<|.val v] λk hk z=>an D.s (an (h2 k hk)<|an mD (an i<|an c (an N.s<|an a (an b<|an a (an N.o<|an a (an mE<|an hr z))))))
theorem Y4(N:Nx m x ba bb p o q)(D:Dn d d')(h2:ao n 42 [.ah xs] [.int d'] (.val s) [.ah ys])(h:lN e=ag)
  (mD:cv .dt (.val<|.int kd) (.own<|.ah [.int 12,.int 24]) []=ab ae)(mE:cv .eq (.val<|.int kd) (.val<|.int 11) []=ab ag)
  (hr:e9 (.own<|yG (ak e) s x ba bb o.i7 (kg q)) (.int kd) []=ab (.val v)):ao (n+1) 43 [.ah xs] [.int kd,.int d,cy x,ak e] (.val v) [.ah ys]:=by
 have a:=(iC x i9 [.ah ys]).trans (ay ab N.a)
 have b:=(iC x gB [.ah ys]).trans (ay ab N.b)
 have i:=i0 e [.ah ys]
 have c:=(iC (hd<|ak e) kc [.ah ys]).trans (ay ab<|(nd e).di.trans h)
 cases ba with
 |true=>
   exact ao.go [.bq 0 (.val<|.int d'),.call (.val s) [.ah ys],.au 0 ae,.aK 0 (.val<|.str (hd<|ak e)),.au 0 ag,.aK 1 (.val<|.str o.i7),.au 0 ae,.au 0 bb,.au 0 ae,.aK 0 (.val<|.str (kg q)),.au 0 ae,.au 0 ag,.aK 0<|.val v] λk hk z=>an D.s (an (h2 k hk)<|an mD (an i<|an c (an N.s<|an a (an b<|an a (an N.o<|an a (an mE<|an hr z))))))
 |false=>
   exact ao.go [.bq 0 (.val<|.int d'),.call (.val s) [.ah ys],.au 0 ae,.aK 0 (.val<|.str (hd<|ak e)),.au 0 ag,.aK 1 (.val<|.str o.i7),.au 0 ag,.au 0 bb,.au 0 ag,.aK 0 (.val<|.str (kg q)),.au 0 ag,.au 0 ag,.aK 0<|.val v] λk hk z=>an D.s (an (h2 k hk)<|an mD (an i<|an c (an N.s<|an a (an b<|an a (an N.o<|an a (an mE<|an hr z))))))
theorem Y5(N:Nx m x ba bb p o q)(D:Dn d d')(h2:ao n 42 [.ah xs] [.int d'] (.val s) [.ah ys]):
  ao (n+1) 43 [.ah xs] [.int 11,.int d,cy x,f] (.val<|.tuple [.str j7,f,if ba then .none else s,if bb then bO (.int 0) else s]) [.ah ys]:=by
 have a:=(iC x i9 [.ah ys]).trans (ay ab N.a)
 have b:=(iC x gB [.ah ys]).trans (ay ab N.b)
 have b':=(B1 x gB [.ah ys]).trans (ay (λb=>ab<|!b) N.b)
 cases ba with
 |true=>
  cases bb with
  |true=>
   exact ao.go [.bq 0 (.val<|.int d'),.call (.val s) [.ah ys],.aK 1 (.val<|.str o.i7),.au 0 ae,.au 0 ae,.au 0 ae,.aK 0 (.val<|.str (kg q)),.au 0 ae,.au 1 ae,.au 0 ag] λk hk z=>an D.s (an (h2 k hk)<|an N.s (an a<|an b (an a<|an N.o (an a<|an a (an b' z)))))
  |false=>
   exact ao.go [.bq 0 (.val<|.int d'),.call (.val s) [.ah ys],.aK 1 (.val<|.str o.i7),.au 0 ae,.au 0 ag,.au 0 ae,.aK 0 (.val<|.str (kg q)),.au 0 ae,.au 1 ae,.au 0 ae] λk hk z=>an D.s (an (h2 k hk)<|an N.s (an a<|an b (an a<|an N.o (an a<|an a (an b' z)))))
 |false=>
  cases bb with
  |true=>
   exact ao.go [.bq 0 (.val<|.int d'),.call (.val s) [.ah ys],.aK 1 (.val<|.str o.i7),.au 0 ag,.au 0 ae,.au 0 ag,.aK 0 (.val<|.str (kg q)),.au 0 ag,.au 1 ag,.au 0 ag] λk hk z=>an D.s (an (h2 k hk)<|an N.s (an a<|an b (an a<|an N.o (an a<|an a (an b' z)))))
  |false=>
   exact ao.go [.bq 0 (.val<|.int d'),.call (.val s) [.ah ys],.aK 1 (.val<|.str o.i7),.au 0 ag,.au 0 ag,.au 0 ag,.aK 0 (.val<|.str (kg q)),.au 0 ag,.au 1 ag,.au 0 ae] λk hk z=>an D.s (an (h2 k hk)<|an N.s (an a<|an b (an a<|an N.o (an a<|an a (an b' z)))))
def Dc(h t n:ai)(d:aH)(xs:af V)(x:aq)(e:E)(kd:ai):Prop:=∃r ys,gP ys/\DE (h+1) (3*t+2) r/\ao (n+1) 43 [.ah xs] [.int kd,.int d,cy x,ak e] (.val<|ak r) [.ah ys]
theorem wF{h t i:ai}{e g:E}(N:Nx m x ba bb p o q)(D:Dn d d')(ge:DE h t e)(gg:DE h t g)(P:gP ys)(h2:ao n 42 [.ah xs] [.int d'] (.val<|ak g) [.ah ys])(ht:2<=t)(hi:i<26)(hk:[5,6,7,9,10,11,12,13,15,16,17,18,24,25].contains i=ae):Dc h t n d xs x e i:=by
 have G:∀{r:E}{i:ai},DE (h+1) (3*t+2) r->cv .dt (.val<|.int i) (.own<|.ah [.int 12,.int 24]) []=ab ag->cv .eq (.val<|.int i) (.val<|.int 11) []=ab ag->e9 (.own<|yG (ak e) (ak g) x ba bb o.i7 (kg q)) (.int i) []=ab (.val<|ak r)->Dc h t n d xs x e i:=
  λgr mD mE hr=>⟨_,ys,P,gr,Y3 N D h2 mD mE hr⟩
 have var:∀{x:aq},x∈gX->DE h t (.var x):=λhx=>⟨.var (.f hx),eL ht,λs=>(Step.refl s).rd.le<|aj (bG<|bQ _) (lA 2 ht)⟩
 have lit:DE h t (.lit<|.int 0):=⟨.lit (gS 0 0 aa),eL ht,λs=>(Step.refl s).le<|bQ _⟩
 have C:∀{i:ai}(F:E->E),(∀{b:E},DE h t b->lN b=ag->DE (h+1) (3*t+2) (F b))->cv .dt (.val<|.int i) (.own<|.ah [.int 12,.int 24]) []=ab ae->cv .eq (.val<|.int i) (.val<|.int 11) []=ab ag->(∀b,e9 (.own<|yG (ak b) (ak g) x ba bb o.i7 (kg q)) (.int i) []=ab (.val<|ak (F b)))->Dc h t n d xs x e i:=
  λF gr mD mE hr=>by
   cases hq:lN e with
   |true=>exact⟨F (.var bz),ys,P,gr (var H4) rfl,Y6 N D h2 hq mD mE<|hr (.var bz)⟩|false=>exact⟨F e,ys,P,gr ge hq,Y4 N D h2 hq mD mE<|hr e⟩
 revert hk
 refine ou.get (P:=λi=>[5,6,7,9,10,11,12,13,15,16,17,18,24,25].contains i=ae->Dc h t n d xs x e i) (n:=26) ⟨⟨⟨⟨⟨⟨⟨⟨⟨⟨⟨⟨⟨⟨⟨⟨⟨⟨⟨⟨⟨⟨⟨⟨⟨⟨trivial,nofun⟩,nofun⟩,nofun⟩,nofun⟩,nofun⟩,λ_=>?_⟩,λ_=>?_⟩,λ_=>?_⟩,nofun⟩,λ_=>?_⟩,λ_=>?_⟩,λ_=>?_⟩,λ_=>?_⟩,λ_=>?_⟩,nofun⟩,λ_=>?_⟩,λ_=>?_⟩,λ_=>?_⟩,λ_=>?_⟩,nofun⟩,nofun⟩,nofun⟩,nofun⟩,nofun⟩,λ_=>?_⟩,λ_=>?_⟩ hi
 ·exact G (r:=.bi .y2 e g) (.bi ge gg) rfl rfl rfl
 ·exact G (r:=.la (.bq o) e g) (.la ge gg) rfl rfl rfl
 ·exact G (r:=.bi .call e g) (.bi ge gg) rfl rfl rfl
 ·exact G (r:=.cN ag e g) (.cN ge gg) rfl rfl rfl
 ·exact G (r:=.cN ae e g) (.cN ge gg) rfl rfl rfl
 ·have w:=Y5 (f:=ak e) N D h2
  cases ba with
  |true=>
   cases bb with
   |true=>exact⟨.c7 e (.lit<|.int 0),ys,P,.c7 ge lit,w⟩|false=>exact⟨.c7 e g,ys,P,.c7 ge gg,w⟩
  |false=>
   cases bb with
   |true=>exact⟨.c6 e g (.lit<|.int 0),ys,P,.c6 ge gg lit,w⟩|false=>exact⟨.c6 e g g,ys,P,.c6 ge gg gg,w⟩
 ·exact C (.bW · g) (λgb hb=>.bW gb gg hb) rfl rfl λ_=>rfl
 ·exact G (r:=.bi (.bS ba bb) e g) (.bi ge gg) rfl rfl rfl
 ·exact G (r:=.bi .dY e g) (.bi ge gg) rfl rfl rfl
 ·cases ba with
  |true=>exact G (r:=.la .cS e g) (.la ge gg) rfl rfl rfl|false=>exact G (r:=.la .cS (.var bz) g) (.la (var H4) gg) rfl rfl rfl
 ·exact G (r:=.bi .d8 e g) (.bi ge gg) rfl rfl rfl
 ·cases q with
  |none=>exact G (r:=.dz x e) (.dz N.f ge) rfl rfl rfl|some q=>exact G (r:=.un (.op q x) e) (.un (u:=.op q x) ge N.f) rfl rfl rfl
 ·exact C (.bW<|.var x) (λgb hb=>.bW (var N.f) gb rfl) rfl rfl λ_=>rfl
 ·cases ba with
  |true=>exact G (r:=.bi (.fW ae) e g) (.bi ge gg) rfl rfl rfl|false=>exact G (r:=.c8 e g) (.c8 ge gg) rfl rfl rfl
end
structure lX(dp:az)(d:aH)(kd w m:ai)(x:aq)(z:V)(xs x0 x1 x2:af V):Prop where
 g:cv .gt (.val<|.int d) (.val<|.int 0) []=ab dp
 e:cv .eq (.val<|.int d) (.val<|.int 0) []=ab (!dp)
 t0:ao 1 40 [.ah xs] [.int<|if dp then 26 else 5] (.val<|.int kd) [.ah x0]
 t1:ao 1 40 [.ah x0] [.int 5] (.val<|.int w) [.ah x1]
 t2:ao 1 40 [.ah x1] [.int 4] (.val<|.int m) [.ah x2]
 i:e9 (.val<|.str Fu) (.int m) []=ab (.val<|.str x)
 l:e9 (.own<|.ah [.int 0,.int 1,.int 2,.str rG,.none]) (.int w) []=ab (.val z)
structure C9(kd:ai):Prop where
 n0:cv .eq (.val<|.int kd) (.val<|.int 0) []=ab ag
 n1:cv .eq (.val<|.int kd) (.val<|.int 1) []=ab ag
 n2:cv .eq (.val<|.int kd) (.val<|.int 2) []=ab ag
 n3:cv .eq (.val<|.int kd) (.val<|.int 3) []=ab ag
 F8:cv .eq (.val<|.int kd) (.val<|.int 14) []=ab ag
section
def LW(f:V)(x:aq)(p:az):bP:=.jg [(4,nB .y1 f),(8,nB (.aN x) f),(19,.tuple [.str oM,.str (if p then m9 else BE),f]),(20,nB .yf f),(21,nB .jP f),(22,.tuple [.str mu,.str (if p then tF else pY),f])]
end
section
variable{dp:az}{d d':aH}{kd w m n:ai}{x:aq}{z f v:V}{xs x0 x1 x2 x3:af V}{ba bb p:az}{o:O}{q:aD az}
theorem Qf(P:lX dp d 0 w m x z xs x0 x1 x2):ao 2 42 [.ah xs] [.int d] (.val<|bO z) [.ah x2]:=by
 cases dp with
 |true=>
  exact ao.go [.au 0 ae,.call (.val<|.int (0:ai)) [.ah x0],.call (.val<|.int w) [.ah x1],.call (.val<|.int m) [.ah x2],.aK 0 (.val<|.str x),.aK 0<|.val z] λk hk y=>an P.g (an (P.t0 k hk)<|an (P.t1 k hk) (an (P.t2 k hk)<|an P.i (an P.l y)))
 |false=>
  exact ao.go [.au 0 ag,.call (.val<|.int (0:ai)) [.ah x0],.call (.val<|.int w) [.ah x1],.call (.val<|.int m) [.ah x2],.aK 0 (.val<|.str x),.aK 0<|.val z] λk hk y=>an P.g (an (P.t0 k hk)<|an (P.t1 k hk) (an (P.t2 k hk)<|an P.i (an P.l y)))
theorem Qe(P:lX dp d 1 w m x z xs x0 x1 x2):ao 2 42 [.ah xs] [.int d] (.val<|cy x) [.ah x2]:=by
 cases dp with
 |true=>
  exact ao.go [.au 0 ae,.call (.val<|.int (1:ai)) [.ah x0],.call (.val<|.int w) [.ah x1],.call (.val<|.int m) [.ah x2],.aK 0 (.val<|.str x),.aK 0<|.val z] λk hk y=>an P.g (an (P.t0 k hk)<|an (P.t1 k hk) (an (P.t2 k hk)<|an P.i (an P.l y)))
 |false=>
  exact ao.go [.au 0 ag,.call (.val<|.int (1:ai)) [.ah x0],.call (.val<|.int w) [.ah x1],.call (.val<|.int m) [.ah x2],.aK 0 (.val<|.str x),.aK 0<|.val z] λk hk y=>an P.g (an (P.t0 k hk)<|an (P.t1 k hk) (an (P.t2 k hk)<|an P.i (an P.l y)))
theorem Qh(P:lX dp d 2 w m x z xs x0 x1 x2):ao 2 42 [.ah xs] [.int d] (.val<|if dp then .tuple [.str fC,.none,.none] else cy x) [.ah x2]:=by
 cases dp with
 |true=>
  exact ao.go [.au 0 ae,.call (.val<|.int (2:ai)) [.ah x0],.call (.val<|.int w) [.ah x1],.call (.val<|.int m) [.ah x2],.aK 0 (.val<|.str x),.aK 0 (.val z),.au 3 ag] λk hk y=>an P.g (an (P.t0 k hk)<|an (P.t1 k hk) (an (P.t2 k hk)<|an P.i (an P.l<|an P.e y)))
 |false=>
  exact ao.go [.au 0 ag,.call (.val<|.int (2:ai)) [.ah x0],.call (.val<|.int w) [.ah x1],.call (.val<|.int m) [.ah x2],.aK 0 (.val<|.str x),.aK 0 (.val z),.au 3 ae] λk hk y=>an P.g (an (P.t0 k hk)<|an (P.t1 k hk) (an (P.t2 k hk)<|an P.i (an P.l<|an P.e y)))
theorem Qg(P:lX dp d 3 w m x z xs x0 x1 x2):ao 2 42 [.ah xs] [.int d] (.val<|if dp then nB .call (cy x) else .tuple [.str fC,.none,.none]) [.ah x2]:=by
 cases dp with
 |true=>
  exact ao.go [.au 0 ae,.call (.val<|.int (3:ai)) [.ah x0],.call (.val<|.int w) [.ah x1],.call (.val<|.int m) [.ah x2],.aK 0 (.val<|.str x),.aK 0 (.val z),.au 5 ag] λk hk y=>an P.g (an (P.t0 k hk)<|an (P.t1 k hk) (an (P.t2 k hk)<|an P.i (an P.l<|an P.e y)))
 |false=>
  exact ao.go [.au 0 ag,.call (.val<|.int (3:ai)) [.ah x0],.call (.val<|.int w) [.ah x1],.call (.val<|.int m) [.ah x2],.aK 0 (.val<|.str x),.aK 0 (.val z),.au 5 ae] λk hk y=>an P.g (an (P.t0 k hk)<|an (P.t1 k hk) (an (P.t2 k hk)<|an P.i (an P.l<|an P.e y)))
theorem e_4(P:lX ag d 4 w m x z xs x0 x1 x2):ao 2 42 [.ah xs] [.int d] (.val<|nB .call (cy x)) [.ah x2]:=
 ao.go [.au 0 ag,.call (.val<|.int (4:ai)) [.ah x0],.call (.val<|.int w) [.ah x1],.call (.val<|.int m) [.ah x2],.aK 0 (.val<|.str x),.aK 0 (.val z),.au 6 ae] λk hk y=>an P.g (an (P.t0 k hk)<|an (P.t1 k hk) (an (P.t2 k hk)<|an P.i (an P.l<|an P.e y)))
theorem aaF(w:ai):cv .lt (.val<|.int w) (.val<|.int 3) []=ab (decide (w<3)):=ay ab (decide_eq_decide.mpr<|oA (n:=w) (m:=3))
theorem aen(P:lX ae d 14 w m x z xs x0 x1 x2):ao 2 42 [.ah xs] [.int d] (.val<|.tuple [.str pV,.str wh,.bool (decide (w<3)),cy x]) [.ah x2]:=
 ao.go [.au 0 ae,.call (.val<|.int (14:ai)) [.ah x0],.call (.val<|.int w) [.ah x1],.call (.val<|.int m) [.ah x2],.aK 0 (.val<|.str x),.aK 0 (.val z),.au 6 ag,.au 1<|decide (w<3)] λk hk y=>an P.g (an (P.t0 k hk)<|an (P.t1 k hk) (an (P.t2 k hk)<|an P.i (an P.l<|an P.e (an (aaF w) y))))
theorem aem(P:lX ae d 23 w m x z xs x0 x1 x2)(hs:ky .sub (.int d) (.int 1)=ab (.val<|.int d'))(h:ao n 42 [.ah x2] [.int d'] (.val f) [.ah x3])(hn:1<=n):ao (n+1) 42 [.ah xs] [.int d] (.val<|.tuple [.str rI,f,zZ (.int w) z]) [.ah x3]:=
 ao.go [.au 0 ae,.call (.val<|.int (23:ai)) [.ah x0],.call (.val<|.int w) [.ah x1],.call (.val<|.int m) [.ah x2],.aK 0 (.val<|.str x),.aK 0 (.val z),.au 6 ag,.bq 0 (.val<|.int d'),.call (.val f) [.ah x3]] λk hk y=>have h1:=aj hn hk;an P.g (an (P.t0 k h1)<|an (P.t1 k h1) (an (P.t2 k h1)<|an P.i (an P.l<|an P.e (an hs<|an (h k hk) y))))
theorem aej(P:lX ae d kd w m x z xs x0 x1 x2)(R:C9 kd)(N:Nx m x ba bb p o q)(hs:ky .sub (.int d) (.int 1)=ab (.val<|.int d'))(h:ao n 42 [.ah x2] [.int d'] (.val f) [.ah x3])(hn:1<=n)
  (hi:cv .dt (.val<|.int kd) (.own<|.ah [.int 4,.int 8,.int 19,.int 20,.int 21,.int 22]) []=ab ae)(hr:e9 (.own<|LW f x p) (.int kd) []=ab (.val v)):ao (n+1) 42 [.ah xs] [.int d] (.val v) [.ah x3]:=by
 have hm:=N.m
 revert hr hm
 cases p with
 |true=>
  exactλhr hm=>ao.go [.au 0 ae,.call (.val<|.int kd) [.ah x0],.call (.val<|.int w) [.ah x1],.call (.val<|.int m) [.ah x2],.aK 0 (.val<|.str x),.aK 0 (.val z),.au 0 ag,.au 0 ag,.au 0 ag,.au 0 ag,.au 0 ag,.au 0 ag,.au 0 ag,.au 0 ag,.bq 0 (.val<|.int d'),.call (.val f) [.ah x3],.au 0 ae,.bq 0 (.val<|.int 1),.bq 0 (.val<|.int 1),.aK 1<|.val v] λk hk y=>have h1:=aj hn hk;an P.g (an (P.t0 k h1)<|an (P.t1 k h1) (an (P.t2 k h1)<|an P.i (an P.l<|an R.n0 (an R.n1<|an R.n2 (an R.n2<|an R.n3 (an R.n3<|an P.e (an R.F8<|an hs (an (h k hk)<|an hi (an hm<|an hm (an hr y))))))))))
 |false=>
  exactλhr hm=>ao.go [.au 0 ae,.call (.val<|.int kd) [.ah x0],.call (.val<|.int w) [.ah x1],.call (.val<|.int m) [.ah x2],.aK 0 (.val<|.str x),.aK 0 (.val z),.au 0 ag,.au 0 ag,.au 0 ag,.au 0 ag,.au 0 ag,.au 0 ag,.au 0 ag,.au 0 ag,.bq 0 (.val<|.int d'),.call (.val f) [.ah x3],.au 0 ae,.bq 0 (.val<|.int 0),.bq 0 (.val<|.int 0),.aK 1<|.val v] λk hk y=>have h1:=aj hn hk;an P.g (an (P.t0 k h1)<|an (P.t1 k h1) (an (P.t2 k h1)<|an P.i (an P.l<|an R.n0 (an R.n1<|an R.n2 (an R.n2<|an R.n3 (an R.n3<|an P.e (an R.F8<|an hs (an (h k hk)<|an hi (an hm<|an hm (an hr y))))))))))
theorem ael(P:lX ae d kd w m x z xs x0 x1 x2)(R:C9 kd){y3:af V}(hs:ky .sub (.int d) (.int 1)=ab (.val<|.int d'))(h:ao n 42 [.ah x2] [.int d'] (.val f) [.ah x3])(hn:1<=n)
  (hi:cv .dt (.val<|.int kd) (.own<|.ah [.int 4,.int 8,.int 19,.int 20,.int 21,.int 22]) []=ab ag)(HH:cv .eq (.val<|.int kd) (.val<|.int 23) []=ab ag)(hr:ao (n+1) 43 [.ah x3] [.int kd,.int d,cy x,f] (.val v) [.ah y3]):ao (n+2) 42 [.ah xs] [.int d] (.val v) [.ah y3]:=
 ao.go [.au 0 ae,.call (.val<|.int kd) [.ah x0],.call (.val<|.int w) [.ah x1],.call (.val<|.int m) [.ah x2],.aK 0 (.val<|.str x),.aK 0 (.val z),.au 0 ag,.au 0 ag,.au 0 ag,.au 0 ag,.au 0 ag,.au 0 ag,.au 0 ag,.au 0 ag,.bq 0 (.val<|.int d'),.call (.val f) [.ah x3],.au 0 ag,.au 0 ag,.call (.val v) [.ah y3]] λk hk y=>have h1:=aj hn (eL hk);an P.g (an (P.t0 k h1)<|an (P.t1 k h1) (an (P.t2 k h1)<|an P.i (an P.l<|an R.n0 (an R.n1<|an R.n2 (an R.n2<|an R.n3 (an R.n3<|an P.e (an R.F8<|an hs (an (h k<|eL hk)<|an hi (an HH<|an (hr k hk) y)))))))))
end
def ly(h t n:ai)(d:aH):Prop:=∀xs,gP xs->∃e ys,gP ys/\DE h t e/\ao n 42 [.ah xs] [.int d] (.val<|ak e) [.ah ys]
structure Ah(dp:az)(d:aH)(xs:af V)(kd w m:ai)(x:aq)(z:V)(ba bb p:az)(o:O)(q:aD az)(x2:af V):Prop where
 hk:kd<(if dp then 26 else 5)
 hw:dr 0 (.int w)
 hz:dr 0 z
 N:Nx m x ba bb p o q
 P:gP x2
 a:∃x0 x1,lX dp d kd w m x z xs x0 x1 x2
theorem RH{dp:az}{d:aH}{xs:af V}(g:cv .gt (.val<|.int d) (.val<|.int 0) []=ab dp)(e:cv .eq (.val<|.int d) (.val<|.int 0) []=ab (!dp))(p:gP xs):∃kd w m x z ba bb p o q x2,Ah dp d xs kd w m x z ba bb p o q x2:=by
 have T:∃kd x0,kd<(if dp then 26 else 5)/\gP x0/\ao 1 40 [.ah xs] [.int<|if dp then 26 else 5] (.val<|.int (kd:ai)) [.ah x0]:=by
  cases dp with
  |true=>exact rE 26 aa aa p|false=>exact rE 5 aa aa p
 obtain⟨kd,x0,hk,p0,t0⟩:=T
 obtain⟨w,x1,hw,p1,t1⟩:=rE 5 aa aa p0
 obtain⟨m,x2,hm,p2,t2⟩:=rE 4 aa aa p1
 obtain⟨z,hz,l⟩:=abJ hw
 obtain⟨x,ba,bb,p,o,q,N⟩:=abI hm
 exact⟨kd,w,m,x,z,ba,bb,p,o,q,x2,hk,aj (Ay hw) aa,hz,N,p2,x0,x1,g,e,t0,t1,t2,N.i,l⟩
theorem aet(h:ai):ly (h+1) 2 2 0:=by
 intro xs p
 obtain⟨kd,w,m,x,z,ba,bb,_,o,q,x2,a⟩:=RH (dp:=ag) (d:=0) rfl rfl p
 obtain⟨x0,x1,r⟩:=a.a
 have F:=a.N.f
 revert r
 exact ou.get (P:=λkd=>lX ag 0 kd w m x z xs x0 x1 x2->∃e ys,gP ys/\DE (h+1) 2 e/\ao 2 42 [.ah xs] [.int 0] (.val<|ak e) [.ah ys]) (n:=5)
  ⟨⟨⟨⟨⟨trivial,λr=>⟨.lit z,x2,a.P,.lit (t:=0) a.hz,Qf r⟩⟩,λr=>⟨.var x,x2,a.P,.var (t:=0) F,Qe r⟩⟩,λr=>⟨.var x,x2,a.P,.var (t:=0) F,Qh r⟩⟩,λr=>⟨.y0,x2,a.P,.y0 (t:=0),Qg r⟩⟩,λr=>⟨.un .call (.var x),x2,a.P,.CV (t:=0) F,e_4 r⟩⟩ a.hk
theorem Qj{h t n:ai}{d d':aH}(D:Dn d d')(Ed:ly h t n d')(ht:2<=t)(hn:1<=n):ly (h+1) (3*t+2) (n+2) d:=by
 intro xs p
 obtain⟨kd,w,m,x,z,ba,bb,pp,o,q,x2,a⟩:=RH D.g D.e p
 obtain⟨x0,x1,r⟩:=a.a
 have F:=a.N.f
 obtain⟨f,x3,p3,gf,rf⟩:=Ed x2 a.P
 obtain⟨g,x4,p4,gg,rg⟩:=Ed x3 p3
 have L:∀{v:V},ao 2 42 [.ah xs] [.int d] (.val v) [.ah x2]->ao (n+2) 42 [.ah xs] [.int d] (.val v) [.ah x2]:=λr=>r.aU (bY 2 n)
 have U:∀{kd:ai}{e:E},C9 kd->DE (h+1) (3*t+2) e->cv .dt (.val<|.int kd) (.own<|.ah [.int 4,.int 8,.int 19,.int 20,.int 21,.int 22]) []=ab ae->e9 (.own<|LW (ak f) x pp) (.int kd) []=ab (.val<|ak e)->
   lX ae d kd w m x z xs x0 x1 x2->∃e ys,gP ys/\DE (h+1) (3*t+2) e/\ao (n+2) 42 [.ah xs] [.int d] (.val<|ak e) [.ah ys]:=λ{kd e} R ge hi hr P=>⟨e,x3,p3,ge,(aej P R a.N D.s rf hn hi hr).aU<|aR _⟩
 have Q:∀{kd:ai},C9 kd->cv .dt (.val<|.int kd) (.own<|.ah [.int 4,.int 8,.int 19,.int 20,.int 21,.int 22]) []=ab ag->cv .eq (.val<|.int kd) (.val<|.int 23) []=ab ag->kd<26->[5,6,7,9,10,11,12,13,15,16,17,18,24,25].contains kd=ae->
   lX ae d kd w m x z xs x0 x1 x2->∃e ys,gP ys/\DE (h+1) (3*t+2) e/\ao (n+2) 42 [.ah xs] [.int d] (.val<|ak e) [.ah ys]:=λ{kd} R hi HH hk hc P=>by
  obtain⟨r,ys,py,gr,rr⟩:=wF a.N D gf gg p4 rg ht hk hc
  exact⟨r,ys,py,gr,ael P R D.s rf hn hi HH rr⟩
 revert r
 refine ou.get (P:=λkd=>lX ae d kd w m x z xs x0 x1 x2->∃e ys,gP ys/\DE (h+1) (3*t+2) e/\ao (n+2) 42 [.ah xs] [.int d] (.val<|ak e) [.ah ys]) (n:=26) ⟨⟨⟨⟨⟨⟨⟨⟨⟨⟨⟨⟨⟨⟨⟨⟨⟨⟨⟨⟨⟨⟨⟨⟨⟨⟨trivial,?_⟩,?_⟩,?_⟩,?_⟩,?_⟩,?_⟩,?_⟩,?_⟩,?_⟩,?_⟩,?_⟩,?_⟩,?_⟩,?_⟩,?_⟩,?_⟩,?_⟩,?_⟩,?_⟩,?_⟩,?_⟩,?_⟩,?_⟩,?_⟩,?_⟩,?_⟩ a.hk
 ·exactλr=>⟨.lit z,x2,a.P,.lit a.hz,L<|Qf r⟩
 ·exactλr=>⟨.var x,x2,a.P,.var F,L<|Qe r⟩
 ·exactλr=>⟨.y0,x2,a.P,.y0,L<|Qh r⟩
 ·exactλr=>⟨.un .call (.var x),x2,a.P,.CV F,L<|Qg r⟩
 ·exact U (e:=.un .y1 f) ⟨rfl,rfl,rfl,rfl,rfl⟩ (.un gf trivial) rfl rfl
 iterate 3 exact Q ⟨rfl,rfl,rfl,rfl,rfl⟩ rfl rfl aa rfl
 ·exact U (e:=.un (.aN x) f) ⟨rfl,rfl,rfl,rfl,rfl⟩ (.un (u:=.aN x) gf F) rfl rfl
 iterate 5 exact Q ⟨rfl,rfl,rfl,rfl,rfl⟩ rfl rfl aa rfl
 ·exactλr=>⟨.dW (decide (w<3)) x,x2,a.P,.dW F,L<|aen r⟩
 iterate 4 exact Q ⟨rfl,rfl,rfl,rfl,rfl⟩ rfl rfl aa rfl
 ·exact U (e:=.un (if pp then .neg else .nt) f) ⟨rfl,rfl,rfl,rfl,rfl⟩ (.un gf<|by cases pp<;>trivial) rfl (by cases pp<;>rfl)
 ·exact U (e:=.un .yf f) ⟨rfl,rfl,rfl,rfl,rfl⟩ (.un gf trivial) rfl rfl
 ·exact U (e:=.un .jP f) ⟨rfl,rfl,rfl,rfl,rfl⟩ (.un gf trivial) rfl rfl
 ·exact U (e:=.un (if pp then .iS else .fF) f) ⟨rfl,rfl,rfl,rfl,rfl⟩ (.un gf<|by cases pp<;>trivial) rfl (by cases pp<;>rfl)
 ·exactλr=>⟨.cZ f (.int w) z,x3,p3,.cZ gf a.hw a.hz,(aem r D.s rf hn).aU<|aR _⟩
 iterate 2 exact Q ⟨rfl,rfl,rfl,rfl,rfl⟩ rfl rfl aa rfl
theorem HZ:Dn 1 0:=⟨rfl,rfl,rfl⟩
theorem Ql:Dn 2 1:=⟨rfl,rfl,rfl⟩
theorem Qk(h:ai):ly (h+2) 8 4 1:=Qj HZ (aet h) (aF 2) aa
theorem aes(h:ai):ly (h+3) 26 6 2:=Qj Ql (Qk h) aa aa
structure gc(lo hi K:ai)(s t:St):Prop where
 n:t.n<=s.n+K
 c:∀j,¬(lo<=j/\j<hi)->t.val (cP j)=s.val (cP j)
noncomputable def dF(lo hi K:ai)(s:St)(r:aD (Sg×St)):Prop:=∃g t,r=ab (g,t)/\gc lo hi K s t
section
variable{lo hi qi qB K K':ai}{s t u:St}{g:Sg}{r x:aD (Sg×St)}{k f:St->aD (Sg×St)}
theorem Step.hH(a:Step K s t):gc lo hi K s t:=⟨a.n,λj _=>a.c j⟩
theorem gc.trans(a:gc lo hi K s t)(b:gc lo hi K' t u):gc lo hi (K+K') s u:=⟨aj b.n (aj (dP a.n K')<|bA (fg _ _ _)),λj h=>(b.c j h).trans (a.c j h)⟩
theorem gc.le(a:gc lo hi K s t)(h:K<=K'):gc lo hi K' s t:=⟨aj a.n (bK h _),a.c⟩
theorem gc.hZ(a:gc lo hi K s t)(h:qi<=lo)(h':hi<=qB):gc qi qB K s t:=⟨a.n,λj q=>a.c j λz=>q ⟨aj h z.1,Jj z.2 h'⟩⟩
theorem dF.le(a:dF lo hi K s r)(h:K<=K'):dF lo hi K' s r:=a.elim λg q=>q.elim λt q=>⟨g,t,q.1,q.2.le h⟩
theorem dF.hZ(a:dF lo hi K s r)(h:qi<=lo)(h':hi<=qB):dF qi qB K s r:=a.elim λg q=>q.elim λt q=>⟨g,t,q.1,q.2.hZ h h'⟩
theorem gc.ku(a:gc lo hi K s t):dF lo hi K s (ab (g,t)):=⟨g,t,rfl,a⟩
theorem gc.on(a:gc lo hi K s t)(b:dF lo hi K' t r):dF lo hi (K+K') s r:=b.elim λg q=>q.elim λu q=>⟨g,u,q.1,a.trans q.2⟩
theorem gc.z(a:gc lo hi K s t):gc lo hi (K+K') s t:=a.le (aW _ _)
theorem dF.seq(a:dF lo hi K s x)(b:∀t,dF lo hi K' t<|k t):dF lo hi (K+K') s (fO x k):=by
 obtain⟨g,t,rfl,q⟩:=a
 cases g with
 |nx=>exact q.on (b t)|_=>exact q.z.ku
theorem dF.go(a:dF lo hi K s x)(b:∀t g,x=ab (g,t)->gc lo hi K s t->dF lo hi K' t (k t)):dF lo hi (K+K') s (gN x k):=by
 obtain⟨g,t,rfl,q⟩:=a
 cases g with
 |nx=>exact q.on (b t _ rfl q)|ct=>exact q.on (b t _ rfl q)|_=>exact q.z.ku
theorem dF.sw(a:dF lo hi K s x):dF lo hi K s (kI x):=by
 obtain⟨g,t,rfl,q⟩:=a
 cases g<;>exact q.ku
theorem dF.try(a:dF lo hi K s x)(b:∀t,dF lo hi K' t<|k t):dF lo hi (K+K') s (sX x k):=by
 obtain⟨g,t,rfl,q⟩:=a
 obtain⟨g',u,e,q'⟩:=b t
 have q:=q.trans q'
 show dF lo hi (K+K') s (zG g<|k t)
 rw[e]
 cases g'<;>exact q.ku
theorem PI(b:∀t,dF lo hi K t<|f t):∀(xs:af V)(s:St),dF lo hi (xs.length*K) s (mF f xs s)
 |[],s=>(Step.refl s).hH.le (bQ _) |>.ku|x::xs,s=>by
  have p:=((Step.refl s).bI (v:=x) (aa:ew∈gX)).hH (lo:=lo) (hi:=hi)
  have q:=p.on ((b _).go λt g _ _=>PI b xs t)
  exact q.le (bA<|(kC _).trans (Jf xs.length K |>.trans (l7 _ _)).symm)
end
section
def xl(k:ai):E:=.la (.bq .lt) (.dW ae<|cP k) (.lit<|.int 3)
def nE(k:ai)(e:E):E:=.cN ag (xl k) e
def B5(k:ai)(l:S):S:=.gO [cB (cP k) (.lit<|.int 0),l]
end
theorem Xn(s:St)(x:aq):Step 1 s (s.rd x):=(Step.refl s).rd
section
variable{lo hi k A B c m N K:ai}{s:St}{e:E}{b:af S}
theorem MB{x:ai}{v:V}(h:lo<=x/\x<hi){t:St}(a:gc lo hi K s t):gc lo hi K s (t.bI (cP x) v):=⟨a.n,λj q=>(wC λe:cP j=cP x=>q<|aeJ e▸h).trans (a.c j q)⟩
theorem H7(hs:s.val (cP k)=ab (.int (c:ai))):ev (xl k) s=(.bool (decide (c+1<3)),((s.rd<|cP k).bI (cP k)<|.int ((c+1:ai):aH)).jH):=by
 show(fP .lt (.int<|dg ((s.val<|cP k).getD .none)+1) (.int 3),((s.rd<|cP k).bI (cP k)<|.int (dg ((s.val<|cP k).getD .none)+1)).jH)=_
 rw[hs]
 exact ay (λb:az=>(mU b,((s.rd<|cP k).bI (cP k)<|.int ((c+1:ai):aH)).jH)) (decide_eq_decide.mpr<|oA (n:=c+1) (m:=3))
theorem Rg(h:lo<=k/\k<hi)(he:∀s,Step A s (ev e s).2)(hs:s.val (cP k)=ab (.int (c:ai))):
  gc lo hi (A+2) s (fB (nE k e) s).2/\(fB (nE k e) s).2.val (cP k)=ab (.int ((c+1:ai):aH))/\(2<=c->(fB (nE k e) s).1=ag):=by
 have f:gc lo hi 2 s (ev (xl k) s).2:=by
  rw[H7 hs]
  have q:=MB (v:=.int ((c+1:ai):aH)) h ((Xn s<|cP k).hH (lo:=lo) (hi:=hi))
  exact⟨bG q.n,q.c⟩
 have v:(ev (xl k) s).2.val (cP k)=ab (.int ((c+1:ai):aH)):=by rw[H7 hs];exact pZ
 have w:bF (ev (xl k) s).1=decide (c+1<3):=by rw[H7 hs];rfl
 revert f v w
 generalize hp:ev (xl k) s=p
 intro f v w
 show gc lo hi (A+2) s (ev (nE k e) s).2/\(ev (nE k e) s).2.val (cP k)=_/\(2<=c->bF (ev (nE k e) s).1=ag)
 rw[show ev (nE k e) s=if bF p.1=ag then(.bool ag,p.2) else(.bool (bF (ev e p.2).1),(ev e p.2).2) from hp▸rfl]
 refine aO (λq:V×St=>gc lo hi (A+2) s q.2/\q.2.val (cP k)=ab (.int ((c+1:ai):aH))/\(2<=c->bF q.1=ag)) (λ_=>⟨f.le (bY 2 A),v,λ_=>rfl⟩) λq=>⟨(f.trans (he p.2).hH).le (bA<|l7 2 A),((he p.2).c k).trans v,λhc=>?_⟩
 exact dk (w.trans<|uR (nK.mpr<|bG hc)) q
theorem Gk(h:lo<=k/\k<hi)(he:∀s,Step A s (ev e s).2)(hb:∀s,dF (k+1) hi B s<|run b s):∀{m N c:ai}{s:St},s.val (cP k)=ab (.int (c:ai))->c+m=2->m<N->dF lo hi ((m+1)*(A+2)+m*B) s (ja (fB<|nE k e) (run b) N s)
 |m,0,_,_,_,_,l=>dk l (Nat.not_lt_zero m)|0,N+1,c,s,hs,hc,_=>by
  obtain⟨f,_,w⟩:=Rg h he hs
  refine aO (dF lo hi _ s) (λq=>dk (w<|bA hc.symm) (by rw[q];exact nofun)) λ_=>(f.le ?_).ku
  rw[Nat.zero_mul,kC,ai2];exact aF _
 |m+1,N+1,c,s,hs,hc,l=>by
  obtain⟨f,v,_⟩:=Rg h he hs
  refine aO (dF lo hi _ s) (λ_=>?_) λ_=>(f.le ?_).ku
  ·refine(f.on<|((hb _).hZ (j2 h.1)<|aF _).go (K':=(m+1)*(A+2)+m*B) λt g e' _=>?_).le ?_
   ·obtain⟨g',t',e2,q⟩:=hb (fB (nE k e) s).2
    have e3:=cq (e2.symm.trans e')
    have vt:t.val (cP k)=ab (.int ((c+1:ai):aH)):=by
     cases e3;exact(q.c k λz=>ai3 k z.1).trans v
    exact Gk h he hb vt (by omega) (Nat.lt_of_succ_lt_succ l)
   ·rw[Jf (m+1) (A+2),Jf m B];omega
  ·rw[Jf];omega
end
structure DS(h t K lo hi:ai)(x:S):Prop where
 ok:fH ae h x
 l:tS x<=t
 a6:∀s,dF lo hi K s (g6 x s)
structure DB(h t K lo hi:ai)(b:af S):Prop where
 ok:bR ae h b
 l:tB b<=t
 len:b.length<=2
 a6:∀s,dF lo hi K s (run b s)
structure DO(h t K lo hi:ai)(k:az)(o:af S):Prop where
 ok:bR ae h o
 l:tB o<=t
 a6:∀s,dF lo hi K s (run o s)
 z:k=ag->o=[]
section
variable{h t K lo hi qi qB t' K' g te tb kb:ai}{x y:S}{b b' o:af S}{e e':E}{k:az}
theorem DS.le(d:DS h t K lo hi x)(ht:t<=t')(hK:K<=K'):DS h t' K' lo hi x:=⟨d.ok,aj d.l ht,λs=>(d.a6 s).le hK⟩
theorem DS.hZ(d:DS h t K lo hi x)(l:qi<=lo)(r:hi<=qB):DS h t K qi qB x:=⟨d.ok,d.l,λs=>(d.a6 s).hZ l r⟩
theorem DB.hZ(d:DB h t K lo hi b)(l:qi<=lo)(r:hi<=qB):DB h t K qi qB b:=⟨d.ok,d.l,d.len,λs=>(d.a6 s).hZ l r⟩
theorem DB.le(d:DB h t K lo hi b)(ht:t<=t')(hK:K<=K'):DB h t' K' lo hi b:=⟨d.ok,aj d.l ht,d.len,λs=>(d.a6 s).le hK⟩
theorem DB.oo(d:DB h t K lo hi b):DO h t K lo hi ae b:=⟨d.ok,d.l,d.a6,nofun⟩
theorem Nk(s:St):dF lo hi 0 s (run [] s):=(Step.refl s).hH.ku
theorem DO.none:DO h t K lo hi ag []:=⟨.nil,bQ _,λs=>(Nk s).le (bQ _),λ_=>rfl⟩
theorem yS{s:St}(a:dF lo hi K s (g6 x s)):dF lo hi K s (run [x] s):=a.seq (K':=0) λt=>Nk t
theorem DS.bh(d:DS h t K lo hi x):DB h t K lo hi [x]:=⟨.cons d.ok .nil λ_=>bQ 3,d.l,aR 1,λs=>yS<|d.a6 s⟩
theorem DS.bU(d:DS h t K lo hi x)(d':DS h t K lo hi y):DB h (t+t) (K+K) lo hi [x,y]:=⟨.cons d.ok (.cons d'.ok .nil λ_=>bQ 3) λ_=>bJ rfl,cQ d.l d'.l,aF 2,λs=>(d.a6 s).seq λt=>yS<|d'.a6 t⟩
theorem EN:te+2<=2*te+2:=by omega
theorem DS.ex(d:DE h te e):DS (h+1) (2*te+2) (4*te+2) lo hi (.ex e):=
 ⟨.ex d.ok,aj (dP d.l 1) (eL EN),λs=>(gc.ku<|aO (gc lo hi (2*te) s) (λ_=>(Step.refl s).hH.le<|bQ _) λ_=>(d.a6 s).hH).le<|by omega⟩
theorem DS.exb(d:DE h te e):DS (h+2) (2*te+2) (4*te+2) lo hi (.ex<|.un (.aN gB) e):=
 ⟨.ex (.un (Nm.f aa:nJ ae (.aN gB)) d.ok),aj (dP d.l 2) EN,λs=>(C1 (q:=.aN gB) (aa:gB∈gX) _ (d.a6 s)).hH.ku.le<|by omega⟩
theorem DS.ig(d:DE h te e)(d':DE h te e'):DS (h+1) (2*te+2) (4*te+2) lo hi (.ig e e'):=
 ⟨.ig d.ok d'.ok,aj (cQ (bG d.l)<|bG d'.l) (by omega),λs=>
  (((((d.a6 s).up (u:=lS e s) rfl (aF _)).trans (d'.a6<|lS e s)).up (u:=lS e'<|lS e s) rfl (aF _)).hH.ku).le (by omega)⟩
theorem DS.fk{j:az}:DS h (t+1) K lo hi (.fk j):=⟨.fk,bY 1 t,λs=>(Step.refl s).hH.ku.le<|bQ _⟩
theorem DS.jK:DS h (t+1) K lo hi .jK:=⟨.jK,bY 1 t,λs=>(Step.refl s).hH.ku.le<|bQ _⟩
theorem DS.ret(d:DE h te e):DS (h+1) (2*te+2) (4*te+2) lo hi (.ret e):=
 ⟨.ret d.ok,aj (dP d.l 1) (eL EN),λs=>(d.a6 s).hH.ku.le<|by omega⟩
theorem DS.ahi:DS (h+3) (t+4) (K+1) lo hi (.gO [.ex<|.un .y1 (.lit<|.str tL)]):=
 ⟨.gO (.cons (.ex<|.un trivial (.lit ⟨aa,aa⟩)) .nil λ_=>bQ 3),bY 4 t,λs=>((yS (x:=.ex<|.un .y1 (.lit<|.str tL))<|(C1 (q:=.y1) trivial _ (Step.refl s)).hH.ku).le (bY 1 K):dF lo hi (K+1) s (run [.ex<|.un .y1 (.lit<|.str tL)] s))⟩
theorem DS.b9(d:DE h te e)(db:DB h tb kb lo hi b)(dO:DO h tb kb lo hi k o):DS (h+1) (2*te+4*tb+1) (6*te+6+3*kb) lo hi (.b9 e b o k):=
 ⟨.b9 d.ok db.ok dO.ok dO.z,aj (cQ d.l<|cQ db.l (bG dO.l)) (by omega),λs=>((d.a6 s).hH.on<|aO (dF lo hi kb (ev e s).2) (λ_=>db.a6 _) λ_=>dO.a6 _).le<|by omega⟩
theorem DS.dH(d:DE h te e)(db:DB h tb kb lo hi b)(d':DE h te e')(jh:DB h tb kb lo hi b')(dO:DO h tb kb lo hi k o):DS (h+1) (2*te+4*tb+1) (6*te+6+3*kb) lo hi (.dH e b e' b' o k):=
 ⟨.dH d.ok db.ok d'.ok jh.ok dO.ok dO.z,aj (cQ d.l<|cQ db.l (cQ dO.l<|cQ d'.l (cQ jh.l<|bG dO.l))) (by omega),
  λs=>((d.a6 s).hH.on<|aO (dF lo hi (2*te+kb) (ev e s).2) (λ_=>(db.a6 _).le<|bY _ _) λ_=>(d'.a6 _).hH.on (aO (dF lo hi kb (ev e' (ev e s).2).2) (λ_=>jh.a6 _) λ_=>dO.a6 _)).le<|by omega⟩
theorem Lj(v:V):(fV ag v).length=1:=by cases v<;>rfl
theorem UN(a b:V):(ql<|fV ag a++fV ag b).length<=2:=by
 have l:(fV ag a++fV ag b).length=2:=eX.trans (by rw[Lj,Lj])
 exact aj (Tc ..) (aj (bA Te)<|aj (Jg _ _) (bA l))
theorem DS.fe(d:DE h te e)(db:DB (h+1) tb kb lo hi b)(ht:4<=tb):DS (h+2) (2*te+4*tb+1) (6*te+6+3*kb) lo hi (.fe (.bi (.bS ag ag) e<|.lit (.int 5)) b):=
 ⟨.fe (.bi d.ok<|.lit (gS 0 5 aa)) db.ok,aj (cQ (dP d.l 4)<|bG db.l) (by omega),λs=>
  ((d.a6 s).hH.on<|(PI db.a6 _ (ev e s).2).le (ai4 kb<|UN (ev e s).1 (.int 5))).le (by omega)⟩
theorem DS.sw(d:DE h te e)(db:DB h tb kb lo hi b)(jh:DB h tb kb lo hi b')(ht:4<=tb):DS (h+1) (2*te+4*tb+1) (6*te+6+3*kb) lo hi (.sw e b b'):=
 ⟨.sw d.ok db.ok jh.ok,aj (cQ db.l<|cQ jh.l (dP d.l 4)) (by omega),λs=>by
  have a:Step (2*te+2) s (ej e s).2:=aO (λp:ai×St=>Step (2*te+2) s p.2) (λ_=>NX.le<|bY 2 _) λ_=>(d.a6 s).le (aW _ 2)
  exact(a.hH.on<|dF.sw (aO (dF lo hi (kb+kb) (ej e s).2) (λ_=>(db.a6 _).seq jh.a6) λ_=>aO (dF lo hi (kb+kb) (ej e s).2) (λ_=>(jh.a6 _).le<|bY _ _) λ_=>(Step.refl _).hH.ku.le<|bQ _)).le<|by omega⟩
theorem DS.tr(d:DE h te e)(db:DB (h+1) tb kb lo hi b)(jh:DB (h+1) tb kb lo hi b')(ht:4<=tb):DS (h+2) (2*te+4*tb+1) (6*te+6+3*kb) lo hi (.tr (.ex e::b) b'):=
 have x:DS (h+1) (2*te+2) (4*te+2) lo hi (.ex e):=.ex d
 ⟨.tr (.cons x.ok db.ok λ_=>j2 db.len) jh.ok,aj (cQ jh.l<|bG (cQ (bG d.l) db.l)) (by omega),λs=>(((x.a6 s).seq db.a6).try jh.a6).le<|by omega⟩
theorem Q3{K k:ai}{l:S}(hk:lo<=k/\k<hi)(H:∀s,s.val (cP k)=ab (.int (0:ai))->dF lo hi K s (g6 l s))(s:St):dF lo hi K s (g6 (B5 k l) s):=
 ((MB (v:=.int 0) hk (Step.refl s).hH).on<|yS (H _ pZ)).le (bA<|kC _)
theorem Nm.ct{k:ai}(h:k<20):Nm ae (cP k):=.inr (.inl ⟨k,h,rfl⟩)
theorem CZ{k:ai}(hk:k<20)(d:DE (h+1) te e):aL ae (h+2) (nE k e):=.cN (.la (.dW<|.ct hk)<|.lit (gS 0 3 aa)) d.ok
theorem NS{k:ai}{l:S}(hk:k<20)(o:fH ae (h+3) l):fH ae (h+4) (B5 k l):=
 .gO (.cons (.ex<|.un (.ct hk:nJ ae (.aN<|cP k)) (.lit<|gS 0 0 aa)) (.cons o .nil λ_=>bQ 3) λ_=>bJ rfl)
theorem DS.cM{k:ai}(h1:lo<=k/\k<hi)(h2:k<20)(d:DE (h+1) te e)(db:DB (h+2) tb kb (k+1) hi b)(ht:4<=tb):DS (h+4) (2*te+4*tb+1) (6*te+6+3*kb) lo hi (B5 k<|.cM (nE k e) b):=
 ⟨NS h2 (.cM (CZ h2 d) db.ok),aj (bG<|bK (cQ (dP (bK d.l 4) 2)<|bG db.l) 3) (by omega),
  Q3 h1 λs hs=>(Gk h1 d.a6 db.a6 (m:=2) (N:=4) hs rfl aa).le<|by omega⟩
theorem DS.c9{k:ai}(h1:lo<=k/\k<hi)(h2:k<20)(d:DE (h+1) te e)(db:DB (h+2) tb kb (k+1) hi b)(ht:4<=tb):DS (h+4) (2*te+4*tb+1) (6*te+6+3*kb) lo hi (B5 k<|.c9 b (nE k e)):=
 ⟨NS h2 (.c9 (CZ h2 d) db.ok),aj (bG<|bK (cQ (dP (bK d.l 4) 2)<|dP db.l 3) 3) (by omega),
  Q3 h1 λs hs=>((((db.a6 s).hZ (j2 h1.1)<|aF _).go λt g e' _=>by
   obtain⟨g',t',e2,q⟩:=db.a6 s
   have vt:t.val (cP k)=ab (.int (0:ai)):=by
    cases cq (e2.symm.trans e');exact(q.c k λz=>ai3 k z.1).trans hs
   exact Gk h1 d.a6 db.a6 (m:=2) (N:=3) vt rfl aa):dF lo hi (kb+((2+1)*(2*te+2)+2*kb)) s (gN (run b s) _)).le<|by omega⟩
end
def du(n:ai)(d kd sz:aH)(il:az)(x0 b0:af V)(v:V)(ys b':af V):Prop:=∀k,n<=k->∃os,dK (b5 a8 k) (dQ a8) (pD 2 nD) [.ah x0,.ah b0]
 [ab (.ref 0),ab (.val<|.int d),ab (.ref 1),ab (.val<|.bool il),ab (.val<|.int kd),ab (.val<|.int sz),aw,aw,aw,aw,aw,aw,aw,aw,aw] os λfl rs _ _=>a6 2 fl rs=ab (.val v,[.ah ys,.ah b'])
section
variable{n:ai}{d d' kd sz:aH}{il:az}{xs x0 x1 x2 x3 x4 x5 x6 x7 b0 b1 b2 b3 ys b':af V}{v e e2:V}{p1 p2 p3:af V}
theorem du.go{P:ai->Prop}(os:Os)(H:∀k,n<=k->ab (MV.val v,[bP.ah ys,.ah b'])=ab (MV.val v,[bP.ah ys,.ah b'])->P k)
  (h:∀k,dK (b5 a8 k) (dQ a8) (pD 2 nD) [.ah x0,.ah b0] [ab (.ref 0),ab (.val<|.int d),ab (.ref 1),ab (.val<|.bool il),ab (.val<|.int kd),ab (.val<|.int sz),aw,aw,aw,aw,aw,aw,aw,aw,aw] os (λfl rs _ _=>a6 2 fl rs=ab (.val v,[.ah ys,.ah b']))=P k):du n d kd sz il x0 b0 v ys b':=
 λk hk=>⟨os,(h k).mpr<|H k hk rfl⟩
theorem Uy(k:ai)(os:Os)(r:af ST)(K:Fl->Rs->Vs->Os->Prop):dK (b5 a8 k) (dQ a8) (pA 2 nD++r) [.ah xs,.ah b0] (slots [ae,ag,ae,ag] 0 [.int 0,.bool il]++eW (15-4) aw) (.call (.val<|.int kd) [.ah x0]::.au 0 ag::.tr 0 ag::os) K=
  (b5 a8 k 40 [.ah xs] [.int 4] (.val<|.int kd) [.ah x0]/\cv .gt (.val<|.int 0) (.val<|.int 1) []=ab ag/\fM (.val<|.bool ag) []=ab ag/\dK (b5 a8 k) (dQ a8) r [.ah x0,.ah b0] [ab (.ref 0),ab (.val<|.int 0),ab (.ref 1),ab (.val<|.bool il),ab (.val<|.int kd),ab (.val<|.int 1),aw,aw,aw,aw,aw,aw,aw,aw,aw] os K):=by kernel_rfl
theorem VS(t:ao n 40 [.ah xs] [.int 4] (.val<|.int kd) [.ah x0])(R:du n 0 kd 1 il x0 b0 v ys b'):ao (n+1) 45 [.ah xs,.ah b0] [.int 0,.bool il] (.val v) [.ah ys,.ah b']:=
 ao.ex (body:=pA 2 nD++pD 2 nD) rfl rfl rfl λk hk=>(R k hk).elim λos q=>⟨.call (.val<|.int kd) [.ah x0]::.au 0 ag::.tr 0 ag::os,cR (an (t k hk)<|an rfl (an rfl q))<|Uy k os _ _⟩
theorem Ux(k:ai)(os:Os)(r:af ST)(K:Fl->Rs->Vs->Os->Prop):dK (b5 a8 k) (dQ a8) (pA 2 nD++r) [.ah xs,.ah b0] (slots [ae,ag,ae,ag] 0 [.int 1,.bool il]++eW (15-4) aw) (.call (.val<|.int kd) [.ah x0]::.au 0 ag::.tr 0 ag::os) K=
  (b5 a8 k 40 [.ah xs] [.int 12] (.val<|.int kd) [.ah x0]/\cv .gt (.val<|.int 1) (.val<|.int 1) []=ab ag/\fM (.val<|.bool ag) []=ab ag/\dK (b5 a8 k) (dQ a8) r [.ah x0,.ah b0] [ab (.ref 0),ab (.val<|.int 1),ab (.ref 1),ab (.val<|.bool il),ab (.val<|.int kd),ab (.val<|.int 1),aw,aw,aw,aw,aw,aw,aw,aw,aw] os K):=by kernel_rfl
theorem VR(t:ao n 40 [.ah xs] [.int 12] (.val<|.int kd) [.ah x0])(R:du n 1 kd 1 il x0 b0 v ys b'):ao (n+1) 45 [.ah xs,.ah b0] [.int 1,.bool il] (.val v) [.ah ys,.ah b']:=
 ao.ex (body:=pA 2 nD++pD 2 nD) rfl rfl rfl λk hk=>(R k hk).elim λos q=>⟨.call (.val<|.int kd) [.ah x0]::.au 0 ag::.tr 0 ag::os,cR (an (t k hk)<|an rfl (an rfl q))<|Ux k os _ _⟩
theorem Uw(k:ai)(os:Os)(r:af ST)(K:Fl->Rs->Vs->Os->Prop):dK (b5 a8 k) (dQ a8) (pA 2 nD++r) [.ah xs,.ah b0] (slots [ae,ag,ae,ag] 0 [.int 2,.bool il]++eW (15-4) aw) (.call (.val<|.int kd) [.ah x0]::.au 0 ae::.tr 0 ae::os) K=
  (b5 a8 k 40 [.ah xs] [.int 12] (.val<|.int kd) [.ah x0]/\cv .gt (.val<|.int 2) (.val<|.int 1) []=ab ae/\fM (.val<|.bool ae) []=ab ae/\dK (b5 a8 k) (dQ a8) r [.ah x0,.ah b0] [ab (.ref 0),ab (.val<|.int 2),ab (.ref 1),ab (.val<|.bool il),ab (.val<|.int kd),ab (.val<|.int 2),aw,aw,aw,aw,aw,aw,aw,aw,aw] os K):=by kernel_rfl
theorem VQ(t:ao n 40 [.ah xs] [.int 12] (.val<|.int kd) [.ah x0])(R:du n 2 kd 2 il x0 b0 v ys b'):ao (n+1) 45 [.ah xs,.ah b0] [.int 2,.bool il] (.val v) [.ah ys,.ah b']:=
 ao.ex (body:=pA 2 nD++pD 2 nD) rfl rfl rfl λk hk=>(R k hk).elim λos q=>⟨.call (.val<|.int kd) [.ah x0]::.au 0 ae::.tr 0 ae::os,cR (an (t k hk)<|an rfl (an rfl q))<|Uw k os _ _⟩
theorem k_0(h1:ao n 42 [.ah x0] [.int sz] (.val e) [.ah x1]):du n d 0 sz il x0 b0 (.tuple [.str lH,e]) x1 b0:=
 du.go [.call (.val e) [.ah x1]] (λk hk z=>an (h1 k hk) z) λk=>by kernel_rfl
theorem k_1(h1:ao n 42 [.ah x0] [.int sz] (.val e) [.ah x1])(h2:ao n 42 [.ah x1] [.int sz] (.val e2) [.ah x2]):du n d 1 sz il x0 b0 (.tuple [.str iz,.tuple [e,e2]]) x2 b0:=
 du.go [.call (.val e) [.ah x1],.call (.val e2) [.ah x2]] (λk hk z=>an (h1 k hk)<|an (h2 k hk) z) λk=>by kernel_rfl
theorem k_2(h1:ao n 42 [.ah x0] [.int sz] (.val e) [.ah x1]):du n d 2 sz il x0 b0 (.tuple [.str lH,nB (.aN gB) e]) x1 b0:=
 du.go [.call (.val e) [.ah x1]] (λk hk z=>an (h1 k hk) z) λk=>by kernel_rfl
theorem abt(h1:ao n 40 [.ah x0] [.int 2] (.val<|.int 0) [.ah x1]):du n d 3 sz ae x0 b0 (fY ae) x1 b0:=
 du.go [.call (.val<|.int 0) [.ah x1]] (λk hk z=>an (h1 k hk) z) λk=>by kernel_rfl
theorem abv(h1:ao n 40 [.ah x0] [.int 2] (.val<|.int 0) [.ah x1]):du n d 3 sz ag x0 b0 (.tuple [.str tK,.tuple [.tuple [.str lH,nB .y1<|bO (.str tL)]]]) x1 b0:=
 du.go [.call (.val<|.int 0) [.ah x1]] (λk hk z=>an (h1 k hk) z) λk=>by kernel_rfl
theorem abr(h1:ao n 40 [.ah x0] [.int 2] (.val<|.int 1) [.ah x1]):du n d 3 sz ae x0 b0 (fY ag) x1 b0:=
 du.go [.call (.val<|.int 1) [.ah x1]] (λk hk z=>an (h1 k hk) z) λk=>by kernel_rfl
theorem abu(h1:ao n 40 [.ah x0] [.int 2] (.val<|.int 1) [.ah x1]):du n d 3 sz ag x0 b0 (.tuple [.str tK,.tuple [.tuple [.str lH,nB .y1<|bO (.str tL)]]]) x1 b0:=
 du.go [.call (.val<|.int 1) [.ah x1]] (λk hk z=>an (h1 k hk) z) λk=>by kernel_rfl
theorem abq(h1:ao n 40 [.ah x0] [.int 2] (.val<|.int 0) [.ah x1]):du n d 4 sz il x0 b0 (.tuple [.str jt,.none]) x1 b0:=
 du.go [.call (.val<|.int 0) [.ah x1]] (λk hk z=>an (h1 k hk) z) λk=>by kernel_rfl
theorem abp(h1:ao n 40 [.ah x0] [.int 2] (.val<|.int 1) [.ah x1])(h2:ao n 42 [.ah x1] [.int sz] (.val e) [.ah x2]):du n d 4 sz il x0 b0 (.tuple [.str jt,e]) x2 b0:=
 du.go [.call (.val<|.int 1) [.ah x1],.call (.val e) [.ah x2]] (λk hk z=>an (h1 k hk)<|an (h2 k hk) z) λk=>by kernel_rfl
theorem abx(h1:ao n 40 [.ah x0] [.int 2] (.val<|.int 0) [.ah x1]):du n d 11 sz il x0 b0 (.tuple [.str jt,.none]) x1 b0:=
 du.go [.call (.val<|.int 0) [.ah x1]] (λk hk z=>an (h1 k hk) z) λk=>by kernel_rfl
theorem abw(h1:ao n 40 [.ah x0] [.int 2] (.val<|.int 1) [.ah x1])(h2:ao n 42 [.ah x1] [.int sz] (.val e) [.ah x2]):du n d 11 sz il x0 b0 (.tuple [.str jt,e]) x2 b0:=
 du.go [.call (.val<|.int 1) [.ah x1],.call (.val e) [.ah x2]] (λk hk z=>an (h1 k hk)<|an (h2 k hk) z) λk=>by kernel_rfl
theorem abo(D:Dn d d')(h1:ao n 40 [.ah x0] [.int 2] (.val<|.int 0) [.ah x1])(h2:ao n 42 [.ah x1] [.int sz] (.val e) [.ah x2])(h3:ao n 44 [.ah x2,.ah b0] [.int d',.bool il] (.val<|.tuple p1) [.ah x3,.ah b1])(h6:ao n 40 [.ah x3] [.int 2] (.val<|.int 0) [.ah x6])(h7:ao n 44 [.ah x6,.ah b1] [.int d',.bool il] (.val<|.tuple p3) [.ah x7,.ah b3]):du n d 5 sz il x0 b0 (.tuple [.str j7,.tuple [.tuple [e,.tuple p1]],.tuple p3]) x7 b3:=
 du.go [.call (.val<|.int 0) [.ah x1],.call (.val e) [.ah x2],.bq 0 (.val<|.int d'),.call (.val<|.tuple p1) [.ah x3,.ah b1],.call (.val<|.int 0) [.ah x6],.bq 0 (.val<|.int d'),.call (.val<|.tuple p3) [.ah x7,.ah b3]] (λk hk z=>an (h1 k hk)<|an (h2 k hk) (an D.s<|an (h3 k hk) (an (h6 k hk)<|an D.s (an (h7 k hk) z)))) λk=>by kernel_rfl
theorem abn(D:Dn d d')(h1:ao n 40 [.ah x0] [.int 2] (.val<|.int 0) [.ah x1])(h2:ao n 42 [.ah x1] [.int sz] (.val e) [.ah x2])(h3:ao n 44 [.ah x2,.ah b0] [.int d',.bool il] (.val<|.tuple p1) [.ah x3,.ah b1])(h6:ao n 40 [.ah x3] [.int 2] (.val<|.int 1) [.ah x6]):du n d 5 sz il x0 b0 (.tuple [.str j7,.tuple [.tuple [e,.tuple p1]],.none]) x6 b1:=
 du.go [.call (.val<|.int 0) [.ah x1],.call (.val e) [.ah x2],.bq 0 (.val<|.int d'),.call (.val<|.tuple p1) [.ah x3,.ah b1],.call (.val<|.int 1) [.ah x6]] (λk hk z=>an (h1 k hk)<|an (h2 k hk) (an D.s<|an (h3 k hk) (an (h6 k hk) z))) λk=>by kernel_rfl
theorem abm(D:Dn d d')(h1:ao n 40 [.ah x0] [.int 2] (.val<|.int 1) [.ah x1])(h2:ao n 42 [.ah x1] [.int sz] (.val e) [.ah x2])(h3:ao n 44 [.ah x2,.ah b0] [.int d',.bool il] (.val<|.tuple p1) [.ah x3,.ah b1])(h4:ao n 42 [.ah x3] [.int sz] (.val e2) [.ah x4])(h5:ao n 44 [.ah x4,.ah b1] [.int d',.bool il] (.val<|.tuple p2) [.ah x5,.ah b2])(h6:ao n 40 [.ah x5] [.int 2] (.val<|.int 0) [.ah x6])(h7:ao n 44 [.ah x6,.ah b2] [.int d',.bool il] (.val<|.tuple p3) [.ah x7,.ah b3]):du n d 5 sz il x0 b0 (.tuple [.str j7,.tuple [.tuple [e,.tuple p1],.tuple [e2,.tuple p2]],.tuple p3]) x7 b3:=
 du.go [.call (.val<|.int 1) [.ah x1],.call (.val e) [.ah x2],.bq 0 (.val<|.int d'),.call (.val<|.tuple p1) [.ah x3,.ah b1],.call (.val e2) [.ah x4],.bq 0 (.val<|.int d'),.call (.val<|.tuple p2) [.ah x5,.ah b2],.call (.val<|.int 0) [.ah x6],.bq 0 (.val<|.int d'),.call (.val<|.tuple p3) [.ah x7,.ah b3]] (λk hk z=>an (h1 k hk)<|an (h2 k hk) (an D.s<|an (h3 k hk) (an (h4 k hk)<|an D.s (an (h5 k hk)<|an (h6 k hk) (an D.s<|an (h7 k hk) z))))) λk=>by kernel_rfl
theorem abl(D:Dn d d')(h1:ao n 40 [.ah x0] [.int 2] (.val<|.int 1) [.ah x1])(h2:ao n 42 [.ah x1] [.int sz] (.val e) [.ah x2])(h3:ao n 44 [.ah x2,.ah b0] [.int d',.bool il] (.val<|.tuple p1) [.ah x3,.ah b1])(h4:ao n 42 [.ah x3] [.int sz] (.val e2) [.ah x4])(h5:ao n 44 [.ah x4,.ah b1] [.int d',.bool il] (.val<|.tuple p2) [.ah x5,.ah b2])(h6:ao n 40 [.ah x5] [.int 2] (.val<|.int 1) [.ah x6]):du n d 5 sz il x0 b0 (.tuple [.str j7,.tuple [.tuple [e,.tuple p1],.tuple [e2,.tuple p2]],.none]) x6 b2:=
 du.go [.call (.val<|.int 1) [.ah x1],.call (.val e) [.ah x2],.bq 0 (.val<|.int d'),.call (.val<|.tuple p1) [.ah x3,.ah b1],.call (.val e2) [.ah x4],.bq 0 (.val<|.int d'),.call (.val<|.tuple p2) [.ah x5,.ah b2],.call (.val<|.int 1) [.ah x6]] (λk hk z=>an (h1 k hk)<|an (h2 k hk) (an D.s<|an (h3 k hk) (an (h4 k hk)<|an D.s (an (h5 k hk)<|an (h6 k hk) z)))) λk=>by kernel_rfl
theorem k_6(h1:ao n 46 [.ah x0,.ah b0] [.int d,.int 6,.int sz] (.val v) [.ah x1,.ah b1]):du n d 6 sz il x0 b0 v x1 b1:=
 du.go [.call (.val v) [.ah x1,.ah b1]] (λk hk z=>an (h1 k hk) z) λk=>by kernel_rfl
theorem k_7(h1:ao n 46 [.ah x0,.ah b0] [.int d,.int 7,.int sz] (.val v) [.ah x1,.ah b1]):du n d 7 sz il x0 b0 v x1 b1:=
 du.go [.call (.val v) [.ah x1,.ah b1]] (λk hk z=>an (h1 k hk) z) λk=>by kernel_rfl
theorem k_8(D:Dn d d')(h1:ao n 42 [.ah x0] [.int sz] (.val e) [.ah x1])(h2:ao n 44 [.ah x1,.ah b0] [.int d',.bool ae] (.val<|.tuple p1) [.ah x2,.ah b1]):du n d 8 sz il x0 b0 (.tuple [.str wq,sr (.bS ag ag) e (bO<|.int 5),.none,cy ew,.bool ag,.tuple p1]) x2 b1:=
 du.go [.call (.val e) [.ah x1],.bq 0 (.val<|.int d'),.call (.val<|.tuple p1) [.ah x2,.ah b1]] (λk hk z=>an (h1 k hk)<|an D.s (an (h2 k hk) z)) λk=>by kernel_rfl
theorem k_9(D:Dn d d')(h1:ao n 42 [.ah x0] [.int sz] (.val e) [.ah x1])(h2:ao n 44 [.ah x1,.ah b0] [.int d',.bool ae] (.val<|.tuple p1) [.ah x2,.ah b1])(h3:ao n 44 [.ah x2,.ah b1] [.int d',.bool ae] (.val<|.tuple p2) [.ah x3,.ah b2]):du n d 9 sz il x0 b0 (.tuple [.str yL,e,.tuple [.tuple [bO (.int 1),.tuple p1],.tuple [.none,.tuple p2],.tuple [bO (.int 2),.tuple [fY ae]]]]) x3 b2:=
 du.go [.call (.val e) [.ah x1],.bq 0 (.val<|.int d'),.call (.val<|.tuple p1) [.ah x2,.ah b1],.bq 0 (.val<|.int d'),.call (.val<|.tuple p2) [.ah x3,.ah b2]] (λk hk z=>an (h1 k hk)<|an D.s (an (h2 k hk)<|an D.s (an (h3 k hk) z))) λk=>by kernel_rfl
theorem aby(D:Dn d d')(h1:ao n 42 [.ah x0] [.int sz] (.val e) [.ah x1])(h2:ao n 44 [.ah x1,.ah b0] [.int d',.bool il] (.val<|.tuple p1) [.ah x2,.ah b1])(h3:ao n 44 [.ah x2,.ah b1] [.int d',.bool il] (.val<|.tuple p2) [.ah x3,.ah b2])(l:1+p1.length<=100000):du n d 10 sz il x0 b0 (.tuple [.str yK,.tuple (.tuple [.str lH,e]::p1),.tuple [],.tuple p2]) x3 b2:=
 du.go [.call (.val e) [.ah x1],.bq 0 (.val<|.int d'),.call (.val<|.tuple p1) [.ah x2,.ah b1],.bq 0 (.val<|.int d'),.call (.val<|.tuple p2) [.ah x3,.ah b2],.bq 0<|.val (.tuple<|.tuple [.str lH,e]::p1)] (λk hk z=>an (h1 k hk)<|an D.s (an (h2 k hk)<|an D.s (an (h3 k hk)<|an (sx (xs:=[.tuple [.str lH,e]]) l) z))) λk=>by kernel_rfl
theorem afF(h:ao n 45 [.ah xs,.ah b0] [.int 0,.bool il] (.val e) [.ah x1,.ah b1]):ao (n+1) 44 [.ah xs,.ah b0] [.int 0,.bool il] (.val<|.tuple [e]) [.ah x1,.ah b1]:=
 ao.go [.call (.val e) [.ah x1,.ah b1]] λk hk z=>an (h k hk) z
theorem afE(D:Dn d d')(t:ao n 40 [.ah xs] [.int 2] (.val<|.int 0) [.ah x0])(h:ao n 45 [.ah x0,.ah b0] [.int d,.bool il] (.val e) [.ah x1,.ah b1]):ao (n+1) 44 [.ah xs,.ah b0] [.int d,.bool il] (.val<|.tuple [e]) [.ah x1,.ah b1]:=
 ao.go [.au 0 ae,.call (.val<|.int 0) [.ah x0],.call (.val e) [.ah x1,.ah b1]] λk hk z=>an D.g (an (t k hk)<|an (h k hk) z)
theorem afD(D:Dn d d')(t:ao n 40 [.ah xs] [.int 2] (.val<|.int 1) [.ah x0])(h:ao n 45 [.ah x0,.ah b0] [.int d,.bool il] (.val e) [.ah x1,.ah b1])(h2:ao n 45 [.ah x1,.ah b1] [.int d,.bool il] (.val e2) [.ah x2,.ah b2]):ao (n+1) 44 [.ah xs,.ah b0] [.int d,.bool il] (.val<|.tuple [e,e2]) [.ah x2,.ah b2]:=
 ao.go [.au 0 ae,.call (.val<|.int 1) [.ah x0],.call (.val e) [.ah x1,.ah b1],.call (.val e2) [.ah x2,.ah b2]] λk hk z=>an D.g (an (t k hk)<|an (h k hk) (an (h2 k hk) z))
section
def Ri(m:ai)(e:V):V:=.tuple [.str wA,.tuple [.str wz,.str BD,.tuple [.str pV,.str wh,.bool ae,cy<|cP m],bO<|.int 3],e]
def NT(m:ai)(l:V):V:=.tuple [.str tK,.tuple [.tuple [.str lH,nB (.aN<|cP m)<|bO (.int 0)],l]]
end
theorem K3{m:ai}(h:m<1000000):gY .str (.int m)=ab (.val<|.str (fU<|toString (m:aH))):=a9 (pE (λz:m=0=>z▸(aa:(0:ai).log2<1920)) λz=>j1 ((S3 z).mpr<|j1 h (aa:1000000<2 ^ 20)) aa)
theorem Qp{m:ai}(h:m<1000000):ky .add (.str Fm) (.str<|fU (toString (m:aH)))=ab (.val<|.str (cP m)):=Iw (aj (bK (BU h).1 _) aa)
theorem YQ{n:ai}(h:n+1<=100000):lI (-1) (n+1)=ab n:=
 (br<|nK.mpr h).trans (by
  have e:(-1:aH)+((n+1:ai):aH)=n:=by omega
  show(if(decide (0<=(-1:aH)+((n+1:ai):aH))&&decide ((-1:aH)+((n+1:ai):aH)<((n+1:ai):aH)))=ae then ab ((-1:aH)+((n+1:ai):aH)).toNat else aw)=ab n
  rw[e]
  exact a9<|dc.mpr ⟨gQ (xQ n),gQ<|oA.mpr (pz n)⟩)
theorem Oh{xs:af V}{x:V}{r:bP}(h:xs.length+1<=100000):e9 (.ref 1) (.int<|-1) [r,.ah<|xs++[x]]=ab (.val x):=by
 show((lI (-1) (xs++[x]).length).bind λj=>(xs++[x])[j]?).map MV.val=_
 rw[eX,show lI (-1) (xs.length+[x].length)=ab xs.length from YQ h]
 exact ay (gv MV.val) (Tj (l:=xs) (a:=x))
theorem aaO(D:Dn d d')(l:b0.length<1000)(h1:ao n 42 [.ah x0] [.int sz] (.val e) [.ah x1])(h2:ao n 44 [.ah x1,.ah<|b0++[.str<|cP b0.length]] [.int d',.bool ae] (.val<|.tuple p1) [.ah x2,.ah b1]):
  ao (n+1) 46 [.ah x0,.ah b0] [.int d,.int 6,.int sz] (.val<|NT b0.length (.tuple [.str nc,Ri b0.length e,.tuple p1])) [.ah x2,.ah b1]:=
 have l1:b0.length<1000000:=j1 l aa
 have l2:b0.length+1<=100000:=aj l aa
 ao.go [.bi 0 (.val<|.int b0.length),.bi 0 (.val<|.str (fU<|toString (b0.length:aH))),.bq 0 (.val<|.str (cP b0.length)),.bw 0 (.val .none) [.ah x0,.ah<|b0++[.str<|cP b0.length]],.aK 0 (.val<|.str (cP b0.length)),.call (.val e) [.ah x1],.bq 0 (.val<|.int d'),.call (.val<|.tuple p1) [.ah x2,.ah b1]] λk hk z=>an (y7 (xs:=b0)<|Ay (j1 l aa)) (an (K3 l1)<|an (Qp l1) (an (show iQ .append (.ref 1) [.val<|.str (cP b0.length)] [.ah x0,.ah b0]=ab (.val .none,[.ah x0,.ah<|b0++[.str<|cP b0.length]]) from ay (gv λrs=>(MV.val .none,rs))<|a9 l2)<|an (Oh (x:=.str<|cP b0.length) (r:=.ah x0) l2) (an (h1 k hk)<|an D.s (an (h2 k hk) z))))
theorem aaN(D:Dn d d')(l:b0.length<1000)(h1:ao n 42 [.ah x0] [.int sz] (.val e) [.ah x1])(h2:ao n 44 [.ah x1,.ah<|b0++[.str<|cP b0.length]] [.int d',.bool ae] (.val<|.tuple p1) [.ah x2,.ah b1]):
  ao (n+1) 46 [.ah x0,.ah b0] [.int d,.int 7,.int sz] (.val<|NT b0.length (.tuple [.str wt,.tuple p1,Ri b0.length e])) [.ah x2,.ah b1]:=
 have l1:b0.length<1000000:=j1 l aa
 have l2:b0.length+1<=100000:=aj l aa
 ao.go [.bi 0 (.val<|.int b0.length),.bi 0 (.val<|.str (fU<|toString (b0.length:aH))),.bq 0 (.val<|.str (cP b0.length)),.bw 0 (.val .none) [.ah x0,.ah<|b0++[.str<|cP b0.length]],.aK 0 (.val<|.str (cP b0.length)),.call (.val e) [.ah x1],.bq 0 (.val<|.int d'),.call (.val<|.tuple p1) [.ah x2,.ah b1]] λk hk z=>an (y7 (xs:=b0)<|Ay (j1 l aa)) (an (K3 l1)<|an (Qp l1) (an (show iQ .append (.ref 1) [.val<|.str (cP b0.length)] [.ah x0,.ah b0]=ab (.val .none,[.ah x0,.ah<|b0++[.str<|cP b0.length]]) from ay (gv λrs=>(MV.val .none,rs))<|a9 l2)<|an (Oh (x:=.str<|cP b0.length) (r:=.ah x0) l2) (an (h1 k hk)<|an D.s (an (h2 k hk) z))))
end
noncomputable def Gw(c a b:ai):Prop:=a<=b/\b<=a+c
section
variable{c c' C a b e:ai}
theorem Gw.trans(g:Gw c a b)(g':Gw c' b e):Gw (c+c') a e:=⟨aj g.1 g'.1,aj g'.2<|aj (dP g.2 c') (bA<|fg _ _ _)⟩
theorem Gw.le(g:Gw c a b)(h:c<=C):Gw C a b:=⟨g.1,aj g.2<|bK h a⟩
theorem Gw.refl:Gw c a a:=⟨aF a,aW a c⟩
theorem Gw.rD(g:Gw c a b)(h:a+(c+c')<=20):b+c'<=20:=aj (dP g.2 c') (aj (bA<|fg _ _ _) h)
end
def qT(h t K n c:ai)(d:aH):Prop:=∀xs bk il,gP xs->bk.length+c<=20->∃x ys uN,gP ys/\Gw c bk.length uN.length/\DS h t K bk.length uN.length x/\ao n 45 [.ah xs,.ah bk] [.int d,.bool il] (.val<|aM x) [.ah ys,.ah uN]
def xx(h t K n c:ai)(d:aH):Prop:=∀xs bk il,gP xs->bk.length+c<=20->∃b ys uN,gP ys/\Gw c bk.length uN.length/\DB h t K bk.length uN.length b/\ao n 44 [.ah xs,.ah bk] [.int d,.bool il] (.val<|.tuple (av b)) [.ah ys,.ah uN]
def qO(h t K c n:ai)(d sz:aH)(il:az)(x0 b0:af V)(kd:ai):Prop:=∃x ys b',gP ys/\Gw c b0.length b'.length/\DS h t K b0.length b'.length x/\du n d kd sz il x0 b0 (aM x) ys b'
section
variable{h g t t' K K' n n' c C te tb kb B:ai}{d d' kd sz:aH}{il:az}{x0 b0:af V}{i:ai}
theorem ly.aU(E:ly h te n sz)(hn:n<=n'):ly h te n' sz:=λxs p=>(E xs p).elim λe q=>q.elim λys q=>⟨e,ys,q.1,q.2.1,q.2.2.aU hn⟩
theorem du.aU{v:V}{ys b':af V}(r:du n d kd sz il x0 b0 v ys b')(hn:n<=n'):du n' d kd sz il x0 b0 v ys b':=λk hk=>r k (aj hn hk)
theorem qO.le(r:qO h t K c n d sz il x0 b0 i)(ht:t<=t')(hK:K<=K')(hn:n<=n'):qO h t' K' c n' d sz il x0 b0 i:=r.elim λx q=>q.elim λys q=>q.elim λb q=>⟨x,ys,b,q.1,q.2.1,q.2.2.1.le ht hK,q.2.2.2.aU hn⟩
theorem vN(p:gP x0)(hn:1<=n):∃(j:az)(ys:af V),gP ys/\ao n 40 [.ah x0] [.int 2] (.val<|.int (if j then 0 else 1)) [.ah ys]:=by
 obtain⟨i,ys,hi,py,r⟩:=rE 2 aa aa p
 revert r
 exact ou.get (P:=λi:ai=>ao 1 40 [.ah x0] [.int 2] (.val<|.int i) [.ah ys]->∃(j:az)(ys:af V),gP ys/\ao n 40 [.ah x0] [.int 2] (.val<|.int (if j then 0 else 1)) [.ah ys]) (n:=2) ⟨⟨trivial,λr=>⟨ae,ys,py,r.aU hn⟩⟩,λr=>⟨ag,ys,py,r.aU hn⟩⟩ hi
theorem Od(Ex:∀h,3<=h->ly h te n sz)(hg:3<=g)(h1:1<=te)(hn:1<=n)(p:gP x0)(hi:i<4):qO (g+2) (2*te+2) (4*te+2) c n d sz il x0 b0 i:=by
 refine ou.get (P:=qO (g+2) (2*te+2) (4*te+2) c n d sz il x0 b0) (n:=4) ⟨⟨⟨⟨trivial,?_⟩,?_⟩,?_⟩,?_⟩ hi
 ·obtain⟨e,x1,p1,de,r1⟩:=Ex (g+1) (j2 hg) x0 p
  exact⟨.ex e,x1,b0,p1,.refl,.ex de,k_0 r1⟩
 ·obtain⟨e,x1,p1,de,r1⟩:=Ex (g+1) (j2 hg) x0 p
  obtain⟨f,x2,p2,df,r2⟩:=Ex (g+1) (j2 hg) x1 p1
  exact⟨.ig e f,x2,b0,p2,.refl,.ig de df,k_1 r1 r2⟩
 ·obtain⟨e,x1,p1,de,r1⟩:=Ex g hg x0 p
  exact⟨.ex (.un (.aN gB) e),x1,b0,p1,.refl,.exb de,k_2 r1⟩
 ·obtain⟨j,x1,p1,r⟩:=vN p hn
  have al:∀{lo hi},DS (g+2) (2*te+2) (4*te+2) lo hi (.gO [.ex<|.un .y1 (.lit<|.str tL)]):=λ{lo hi}=>by
   cases g with
   |zero=>exact dk hg (uZ _)|succ g=>exact(DS.ahi (t:=0) (K:=4*te+1)).le (dP (lA 2 h1) 2) (aF _)
  cases j with
  |true=>
   cases il with
   |true=>exact⟨.fk ae,x1,b0,p1,.refl,.fk,abt r⟩|false=>exact⟨_,x1,b0,p1,.refl,al,abv r⟩
  |false=>
   cases il with
   |true=>exact⟨.fk ag,x1,b0,p1,.refl,.fk,abr r⟩|false=>exact⟨_,x1,b0,p1,.refl,al,abu r⟩
theorem KE(h:4<=tb):2*te+2<=2*te+4*tb+1:=by omega
theorem KG:4*te+2<=6*te+6+3*kb:=by omega
theorem MI(Ex:∀h,3<=h->ly h te n sz)(Bd:∀h,B<=h->xx h tb kb n c d')(hg:B<=g+2)(g3:3<=g)(hr:b0.length+(c+1)<=20)(p:gP x0):∃e b x1 x2 b1,gP x2/\Gw (c+1) b0.length b1.length/\(b0.length<=b0.length/\b0.length<b1.length)/\DE (g+1) te e/\DB (g+2) tb kb (b0.length+1) b1.length b/\
  ao n 42 [.ah x0] [.int sz] (.val<|ak e) [.ah x1]/\ao n 44 [.ah x1,.ah<|b0++[.str<|cP b0.length]] [.int d',.bool ae] (.val<|.tuple (av b)) [.ah x2,.ah b1]:=by
 have l:(b0++[jn<|cP b0.length]).length=b0.length+1:=eX
 have q:b0.length+(c+1)=b0.length+1+c:=(ay (b0.length+·)<|l7 c 1).trans (fg _ _ _).symm
 obtain⟨e,x1,p1,de,r1⟩:=Ex (g+1) (j2 g3) x0 p
 obtain⟨b,x2,b1,p2,gw,db,r2⟩:=Bd (g+2) hg x1 (b0++[.str<|cP b0.length]) ae p1 (l.symm▸q▸hr)
 rw[l] at gw db
 exact⟨e,b,x1,x2,b1,p2,⟨eL gw.1,aj gw.2<|bA q.symm⟩,⟨aF _,gw.1⟩,de,db,r1,r2⟩
theorem Ox(D:Dn d d')(Ex:∀h,3<=h->ly h te n sz)(Bd:∀h,B<=h->xx h tb kb n c d')(hB:5<=B)(hg:B<=g+2)(h1:1<=te)(h4:4<=tb)(hn:1<=n)(hC:c+(c+c)<=C)(xa:c+1<=C)(hr:b0.length+C<=20)(p:gP x0)(hi:i<12):
  qO (g+4) (2*te+4*tb+1) (6*te+6+3*kb) C (n+1) d sz il x0 b0 i:=by
 have Hp:3<=g:=sO (sO<|aj hB hg)
 have g1:=j2 Hp
 have g2:=j2 g1
 have g3:=j2 g2
 have qC:=j2 hg
 have ro:∀{c},c<=C->b0.length+c<=20:=λh=>aj (bK h _) hr
 have m1:c<=C:=eL xa
 have m2:c+c<=C:=aj (bY _ _) hC
 have CY:b0.length<20:=aj (bK (aj (bY 1 c) xa) _) hr
 have lf:∀{i},i<4->qO (g+4) (2*te+4*tb+1) (6*te+6+3*kb) C (n+1) d sz il x0 b0 i:=λhi=>(Od (g:=g+2) Ex g2 h1 hn p hi).le (KE h4) KG (aR n)
 have rt:∀{i:ai},(∀{x1},ao n 40 [.ah x0] [.int 2] (.val<|.int 0) [.ah x1]->du n d i sz il x0 b0 (.tuple [.str jt,.none]) x1 b0)->(∀{x1 x2 e},ao n 40 [.ah x0] [.int 2] (.val<|.int 1) [.ah x1]->ao n 42 [.ah x1] [.int sz] (.val e) [.ah x2]->du n d i sz il x0 b0 (.tuple [.str jt,e]) x2 b0)->
   qO (g+4) (2*te+4*tb+1) (6*te+6+3*kb) C (n+1) d sz il x0 b0 i:=λ{i} H H'=>by
  obtain⟨j,x1,p1,r⟩:=vN p hn
  cases j with
  |true=>exact⟨.jK,x1,b0,p1,.refl,.jK,(H r).aU<|aR n⟩|false=>
   obtain⟨e,x2,p2,de,r2⟩:=Ex (g+3) g3 x1 p1
   exact⟨.ret e,x2,b0,p2,.refl,DS.le (.ret de) (KE h4) KG,(H' r r2).aU<|aR n⟩
 refine ou.get (P:=qO (g+4) (2*te+4*tb+1) (6*te+6+3*kb) C (n+1) d sz il x0 b0) (n:=12) ⟨⟨⟨⟨⟨⟨⟨⟨⟨⟨⟨⟨trivial,lf aa⟩,lf aa⟩,lf aa⟩,lf aa⟩,rt abq abp⟩,?_⟩,?_⟩,?_⟩,?_⟩,?_⟩,?_⟩,rt abx abw⟩ hi
 ·obtain⟨j,x1,p1,r1⟩:=vN p hn
  obtain⟨e,x2,p2,de,r2⟩:=Ex (g+3) g3 x1 p1
  obtain⟨b,x3,b1,p3,w1,db,r3⟩:=Bd (g+3) qC x2 b0 il p2 (ro m1)
  cases j with
  |true=>
   obtain⟨j,x4,p4,r4⟩:=vN p3 hn
   cases j with
   |true=>
    obtain⟨o,x5,b2,p5,w2,dO,r5⟩:=Bd (g+3) qC x4 b1 il p4 (w1.rD<|ro m2)
    exact⟨.b9 e b o ae,x5,b2,p5,(w1.trans w2).le m2,.b9 de (db.hZ (aF _) w2.1) (dO.hZ w1.1<|aF _).oo,(abo D r1 r2 r3 r4 r5).aU<|aR n⟩
   |false=>exact⟨.b9 e b [] ag,x4,b1,p4,w1.le m1,.b9 de db .none,(abn D r1 r2 r3 r4).aU<|aR n⟩
  |false=>
   obtain⟨f,x4,p4,df,r4⟩:=Ex (g+3) g3 x3 p3
   obtain⟨b',x5,b2,p5,w2,jh,r5⟩:=Bd (g+3) qC x4 b1 il p4 (w1.rD<|ro m2)
   obtain⟨j,x6,p6,r6⟩:=vN p5 hn
   have w:=w1.trans w2
   cases j with
   |true=>
    obtain⟨o,x7,b3,p7,w3,dO,r7⟩:=Bd (g+3) qC x6 b2 il p6 (w.rD (c':=c)<|fg c c c▸ro hC)
    exact⟨.dH e b f b' o ae,x7,b3,p7,(w.trans w3).le (fg c c c▸hC),.dH de (db.hZ (aF _)<|aj w2.1 w3.1) df (jh.hZ w1.1 w3.1) (dO.hZ w.1<|aF _).oo,(abm D r1 r2 r3 r4 r5 r6 r7).aU<|aR n⟩
   |false=>exact⟨.dH e b f b' [] ag,x6,b2,p6,w.le m2,.dH de (db.hZ (aF _) w2.1) df (jh.hZ w1.1<|aF _) .none,(abl D r1 r2 r3 r4 r5 r6).aU<|aR n⟩
 ·obtain⟨e,b,x1,x2,b1,p2,w,hk,de,db,r1,r2⟩:=MI Ex Bd hg Hp (ro xa) p
  exact⟨_,x2,b1,p2,w.le xa,.cM hk CY de db h4,k_6<|aaO D (j1 CY aa) r1 r2⟩
 ·obtain⟨e,b,x1,x2,b1,p2,w,hk,de,db,r1,r2⟩:=MI Ex Bd hg Hp (ro xa) p
  exact⟨_,x2,b1,p2,w.le xa,.c9 hk CY de db h4,k_7<|aaN D (j1 CY aa) r1 r2⟩
 ·obtain⟨e,x1,p1,de,r1⟩:=Ex (g+2) g2 x0 p
  obtain⟨b,x2,b1,p2,w1,db,r2⟩:=Bd (g+3) qC x1 b0 ae p1 (ro m1)
  exact⟨_,x2,b1,p2,w1.le m1,.fe de db h4,(k_8 D r1 r2).aU<|aR n⟩
 ·obtain⟨e,x1,p1,de,r1⟩:=Ex (g+3) g3 x0 p
  obtain⟨b,x2,b1,p2,w1,db,r2⟩:=Bd (g+3) qC x1 b0 ae p1 (ro m1)
  obtain⟨b',x3,b2,p3,w2,jh,r3⟩:=Bd (g+3) qC x2 b1 ae p2 (w1.rD<|ro m2)
  exact⟨.sw e b b',x3,b2,p3,(w1.trans w2).le m2,.sw de (db.hZ (aF _) w2.1) (jh.hZ w1.1<|aF _) h4,(k_9 D r1 r2 r3).aU<|aR n⟩
 ·obtain⟨e,x1,p1,de,r1⟩:=Ex (g+2) g2 x0 p
  obtain⟨b,x2,b1,p2,w1,db,r2⟩:=Bd (g+3) qC x1 b0 il p1 (ro m1)
  obtain⟨b',x3,b2,p3,w2,jh,r3⟩:=Bd (g+3) qC x2 b1 il p2 (w1.rD<|ro m2)
  exact⟨.tr (.ex e::b) b',x3,b2,p3,(w1.trans w2).le m2,.tr de (db.hZ (aF _) w2.1) (jh.hZ w1.1<|aF _) h4,(aby D r1 r2 r3<|qJ b▸aj (bK db.len 1) aa).aU<|aR n⟩
end
section
variable{h t K n c B:ai}{d d':aH}
theorem CG{P:ai->Prop}{j:ai}(E:∀h,P<|h+j):∀h,j<=h->P h:=λh hh=>Jh hh▸E (h-j)
theorem qT.b0(S:qT h t K n c 0):xx h t K (n+1) c 0:=λxs bk il p r=>by
 obtain⟨x,ys,b,py,w,dx,q⟩:=S xs bk il p r
 exact⟨[x],ys,b,py,w,dx.bh,afF q⟩
theorem qT.b1(D:Dn d d')(S:qT h t K n c d)(hn:1<=n):xx h (t+t) (K+K) (n+1) (c+c) d:=λxs bk il p r=>by
 obtain⟨j,x0,p0,r0⟩:=vN p hn
 obtain⟨x,x1,b,p1,w,dx,q⟩:=S x0 bk il p0 (aj (bK (bY c c) _) r)
 cases j with
 |true=>exact⟨[x],x1,b,p1,w.le (bY c c),dx.bh.le (bY t t) (bY K K),afE D r0 q⟩|false=>
  obtain⟨y,x2,b2,p2,w2,dy,q2⟩:=S x1 b il p1 (w.rD r)
  exact⟨[x,y],x2,b2,p2,w.trans w2,(dx.hZ (aF _) w2.1).bU (dy.hZ w.1<|aF _),afD D r0 q q2⟩
end
theorem PZ:∀h,3<=h->ly h 8 4 1:=CG (P:=λh=>ly h 8 4 1) λh=>Qk (h+1)
theorem adz:∀h,3<=h->ly h 26 6 2:=CG (P:=λh=>ly h 26 6 2) λh=>aes h
theorem WM(h:ai)(hh:5<=h):qT h 18 34 5 0 0:=CG (P:=λh=>qT h 18 34 5 0 0) (j:=5) (λg xs bk il p r=>by
 obtain⟨i,x0,hi,p0,r0⟩:=rE 4 aa aa p
 obtain⟨x,ys,b,py,w,dx,q⟩:=Od (g:=g+3) (te:=8) (n:=4) (c:=0) (d:=0) (sz:=1) (il:=il) (b0:=bk) PZ (bY 3 g) aa aa p0 hi
 exact⟨x,ys,b,py,w,dx,VS (r0.aU aa) q⟩) h hh
theorem afs(h:ai)(hh:5<=h):xx h 18 34 6 0 0:=(WM h hh).b0
theorem WL(h:ai)(hh:7<=h):qT h 89 156 8 1 1:=CG (P:=λh=>qT h 89 156 8 1 1) (j:=7) (λg xs bk il p r=>by
 obtain⟨i,x0,hi,p0,r0⟩:=rE 12 aa aa p
 obtain⟨x,ys,b,py,w,dx,q⟩:=Ox (g:=g+3) (te:=8) (n:=6) (c:=0) (C:=1) (sz:=1) (il:=il) (b0:=bk) (tb:=18) (kb:=34) (B:=5) HZ (λh hh=>(PZ h hh).aU aa) afs (aF 5) (bY 5 g) aa aa aa aa aa r p0 hi
 exact⟨x,ys,b,py,w,dx,VR (r0.aU aa) q⟩) h hh
theorem afr(h:ai)(hh:7<=h):xx h 178 312 9 2 1:=(WL h hh).b1 HZ aa
theorem E5:qT 9 765 1098 11 6 2:=λxs bk il p r=>by
 obtain⟨i,x0,hi,p0,r0⟩:=rE 12 aa aa p
 obtain⟨x,ys,b,py,w,dx,q⟩:=Ox (g:=5) (te:=26) (n:=9) (c:=2) (C:=6) (sz:=2) (il:=il) (b0:=bk) (tb:=178) (kb:=312) (B:=7) Ql (λh hh=>(adz h hh).aU aa) afr aa aa aa aa aa aa aa r p0 hi
 exact⟨x,ys,b,py,w,dx,VQ (r0.aU aa) q⟩
section
def me(b8:aH):St:=⟨[(i9,.int 1),(gB,.str rG),(bz,.tuple [.int 0,.int 1,.int 2])],[],0,b8,0⟩
def iP(u:St):af aq:=ti (u.vars.map fK)
noncomputable def vZ(u:St)(n:aq):V:=.tuple [.str n,u.get n]
def BB(g:Sg)(u:St):V:=.tuple [bj g,.list u.bM,.list<|(iP u).map (vZ u)]
end
theorem EW(b8:aH):(me b8).er=me b8:=by kernel_rfl
theorem Lf(b8:aH):bX ae (me b8) where
 bM:=aF 0
 bT:=λp hp=>by
  have h:p.2=.int 1\/p.2=.str rG\/p.2=.tuple [.int 0,.int 1,.int 2]:=by
   simp only [me,dX,gA,or_false] at hp
   exact hp.imp (ay iV) (.imp (ay iV)<|ay iV)
  rcases h with h|h|h<;>rw[h]
  ·exact gS 0 1 aa
  ·exact⟨aa,aa⟩
  ·refine⟨bJ rfl,λd hd=>?_⟩
   simp only [dX,gA,or_false] at hd
   rcases hd with rfl|rfl|rfl
   ·exact gS 0 0 aa
   ·exact gS 0 1 aa
   ·exact gS 0 2 aa
 qI:=nofun
 iP:=λp hp=>.inl ((show ∀x∈[i9,gB,bz],x∈gX by decide) p.1<|Tb (f:=fK) hp)
 nd:=show[i9,gB,bz].Nodup by decide
 d:=show bz∈[i9,gB,bz] by decide
section
def Gv:af aq:=gX++(jE 20).map cP
end
theorem Z7{c:az}{x:aq}(h:Nm c x)(ht:fu x=ag):x∈Gv:=by
 rcases h with h|⟨k,h,rfl⟩|⟨_,k,_,rfl⟩
 ·exact pB _ h
 ·exact u6 _ (Tb<|DP.mpr h)
 ·exact dk ((oI k).symm.trans ht) nofun
section
variable{c:az}{t:St}
theorem P5(g:bX c t):(t.er.vars.map fK).length<=25:=
 aj (Ng (m:=Gv) ((Js.map fK).nodup g.nd) λx hx=>(eE.mp hx).elim λp q=>q.2▸have w:=xN.mp q.1;Z7 (g.iP p w.1) (pF _▸w.2)) (by
  simp only [Gv,gX,eX,iF,Td,Jq,DR];decide)
theorem K2:∀l:af aq,sZ (l.map .str)=ab l
 |[]=>rfl|x::l=>ay (gv (x::·)) (K2 l)
theorem Ln(l:af aq):(ti l).length=l.length:=(ajh l nj).length_eq
theorem V2{l:af aq}(h:l.length<64):gY .rA (.list<|l.map .str)=ab (.own<|.ah ((ti l).map .str)):=(a9<|show(l.map jn).length<64 from(iF _).symm▸h).trans (ay (gv λys:af aq=>MV.own<|.ah ((ti ys).map .str))<|K2 l)
theorem abW(x:aq):fu x=decide (x.cps[0]?=ab 35):=by
 have e:x.cps[0]?=x.cps.toList[0]?:=(JA).symm
 cases h:x.cps.toList with
 |nil=>rw[e,h];show(fj x.cps.toList aw (ab 1)==[35])=_;rw[h];rfl|cons c l=>rw[e,h];exact(GP h).trans (decide_eq_decide.mpr ⟨λq=>q▸rfl,λq=>cq q⟩)
theorem F3:∀vs:af (aq×V),((vs.map (·.1)).filterMap λs=>if s.cps[0]?=ab 35 then aw else ab (jn s))=((vs.filter λp=>!fu p.1).map fK).map jn
 |[]=>rfl|p::vs=>by
  rw[mV,xP,mW,abW p.1]
  by_cases h:p.1.cps[0]?=ab 35
  ·rw[a9 h,br (show ¬(!decide (p.1.cps[0]?=ab 35))=ae by rw[gQ h];exact nofun)];exact F3 vs
  ·rw[br h,a9 (show(!decide (p.1.cps[0]?=ab 35))=ae by rw[uR h];rfl)];exact ay (jn p.1::·) (F3 vs)
theorem jj.key{x:aq}(h:jj x):(x.length !=0&&(fc x&&decide (x.length<=100000)))=ae:=
 dc.mpr ⟨bne_iff_ne.mpr (DM h.1.1),dc.mpr ⟨Array.all_eq_true_iff_forall_mem.mpr λc hc=>gQ (j1 (h.2 c<|Jz.mpr hc) aa),gQ<|aj h.1.2 aa⟩⟩
theorem abj(f:b6 c t):GD (.vars 0) [t.root]=ab (.own<|.ah ((t.er.vars.map fK).map .str)):=
 (a9<|dc.mpr ⟨sP.mpr λp hp=>(f.g.iP p hp).ok.key,gQ f.vars⟩).trans (ay (λl=>ab<|MV.own (.ah l))<|F3 t.vars)
end
section
variable{n m k h₀:ai}{s s1 t u:St}{g:Sg}{v:az}{p:V×St}{h:H}{e a b c:E}{x y z:aD (Sg×St)}{l o f:af S}
theorem GV{b B:af S}{Q:St->Prop}{F:St->aD (Sg×St)}(oc:aL ae h₀ c)(gb:GB ae b)(ib:∀u g t,bX ae u.er->run b u.er=ab (g,t)->RB m u (run B u) g t)(hQ:∀s t,dN m s t->Q s->Q t)
  (hF:∀s,bX ae s.er->Q s->∃u,u.er=(ev c s.er).2/\dN m s u/\F s=if bF (ev c s.er).1 then run B u else ab (.bk,u)):
  ∀j s g t,bX ae s.er->Q s->ja (fB c) (run b) j s.er=ab (g,t)->RB m s (ja (λs=>(ae,s)) F j s) g t
 |0,_,_,_,_,_,q=>nomatch q|j+1,s,g,t,G,hq,q=>(hF s G hq).elim λu U=>by
  have ge:=cX oc _ G
  have q:(if bF (ev c s.er).1 then gN (run b (ev c s.er).2) (ja (fB c) (run b) j) else ab (.nx,(ev c s.er).2))=ab (g,t):=q
  show RB m s (gN (F s)<|ja (λs=>(ae,s)) F j) g t
  rw[U.2.2]
  by_cases w:bF (ev c s.er).1=ae
  ·rw[a9 w] at q ⊢
   have G':bX ae u.er:=U.1.symm▸ge.g
   exact yT q (λg' s' r=>⟨(gb _ ge.g g' s' r).1,(ib u g' s' G'<|U.1.symm▸r).at U.2.1 (aF m)⟩) λg' s' t1 r0 g1 e1 k1 r=>GV oc gb ib hQ hF j t1 g t (e1.symm▸g1) (hQ _ _ k1 hq) (e1.symm▸r)
  ·rw[br w] at q ⊢
   cases q
   exact⟨u,rfl,U.1,U.2.1⟩
theorem EE{b B:af S}(oc:aL ae h₀ c)(gb:GB ae b)(ib:∀u g t,bX ae u.er->run b u.er=ab (g,t)->RB m u (run B u) g t):
  ∀j s g t,bX ae s.er->ja (fB c) (run b) j s.er=ab (g,t)->RB m s (ja (fB c) (run B) j s) g t
 |0,_,_,_,_,q=>nomatch q|j+1,s,g,t,G,q=>by
  have ge:=cX oc _ G
  have q:(if bF (ev c s.er).1 then gN (run b (ev c s.er).2) (ja (fB c) (run b) j) else ab (.nx,(ev c s.er).2))=ab (g,t):=q
  have z1:(ev c s).1=(ev c s.er).1:=(ay fK (kt oc s):)
  have z2:(ev c s).2.er=(ev c s.er).2:=(ay iV (kt oc s):)
  have k1:=(kX oc s).same m
  show RB m s (if bF (ev c s).1 then gN (run B (ev c s).2) (ja (fB c) (run B) j) else ab (.nx,(ev c s).2)) g t
  rw[z1]
  by_cases w:bF (ev c s.er).1=ae
  ·rw[a9 w] at q ⊢
   exact(yT q (λg' s' r=>⟨(gb _ ge.g g' s' r).1,ib _ g' s' (z2.symm▸ge.g)<|z2.symm▸r⟩) λg' s' t1 r0 g1 e1 _ r=>EE oc gb ib j t1 g t (e1.symm▸g1)<|e1.symm▸r).at k1 (aF m)
  ·rw[br w] at q ⊢
   cases q
   exact⟨_,rfl,z2,k1⟩
theorem W6(x:E)(s:St):g6 (gn x) s=if !bF (ev x s).1 then ab (.bk,(ev x s).2) else ab (.nx,(ev x s).2):=rfl
theorem eI.gn{B:af S}(Z:eI v p n s h s1):run ((h.o++[Mine.L.gn h.e])++B) s=if bF p.1 then run B (ev h.e s1).2 else ab (.bk,(ev h.e s1).2):=by
 refine(yD _ _ _).trans ((ay (λz=>fO z<|run B)<|(nR Z.dZ).trans ((W6 h.e s1).trans (ay (λw=>if(!bF w)=ae then ab (Sg.bk,(ev h.e s1).2) else ab (.nx,(ev h.e s1).2)) Z.val))).trans ?_)
 cases bF p.1<;>rfl
theorem WT{b:af S}(oc:aL ae h₀ c)(gb:GB ae b)(ub:Up b)(ib:SB b):SS (.cM c b):=λn s g t G q=>by
 cases hy:Y c with
 |false=>
  rw[show h1 (.cM c b) n=([.cM c (hB b n).1],(hB b n).2) from br<|cz.mp hy]
  exact RB.qf (EE oc gb (ib n) yI s g t G q)
 |true=>
  rw[show h1 (.cM c b) n=([Ew (hv c n) (hB b (hv c n).n).1],(hB b (hv c n).n).2) from a9 hy]
  exact RB.qf (GV (Q:=λ_=>True) oc gb (λu g t G r=>(ib (hv c n).n u g t G r).at (dN.refl n u) (dI c n)) (λ_ _ _ _=>trivial)
   (λs G _=>(j4 oc n s G).elim λs1 Z=>⟨(ev (hv c n).e s1).2,Z.st,Z.all,Z.gn⟩) yI s g t G trivial q)
theorem W4{b:af S}(oc:aL ae h₀ c)(gb:GB ae b)(ub:Up b)(ib:SB b):SS (.c9 b c):=λn s g t G q=>by
 have q:gN (run b s.er) (ja (fB c) (run b) 3)=ab (g,t):=q
 cases hy:Y c with
 |false=>
  rw[show h1 (.c9 b c) n=([.c9 (hB b n).1 c],(hB b n).2) from br<|cz.mp hy]
  exact RB.qf (yT q (λg' s' r=>⟨(gb _ G g' s' r).1,ib n s g' s' G r⟩) λg' s' t1 r0 g1 e1 _ r=>EE oc gb (ib n) 3 t1 g t (e1.symm▸g1)<|e1.symm▸r)
 |true=>
  rw[show h1 (.c9 b c) n=(CQ (aG<|n+1) (hv c<|n+1) (hB b (hv c<|n+1).n).1,(hB b (hv c<|n+1).n).2) from a9 hy]
  let B:=(hB b (hv c<|n+1).n).1
  let F:af S:=eA (.var<|aG (n+1)) ((hv c<|n+1).o++[gn (hv c<|n+1).e])::cB (aG<|n+1) (.lit<|.bool ae)::B
  have cV:∀u g t,bX ae u.er->run b u.er=ab (g,t)->RB (n+1) u (run B u) g t:=λu g t G r=>(ib (hv c<|n+1).n u g t G r).at (dN.refl (n+1) u) (dI c<|n+1)
  have eT:∀u:St,∀w,(u.bI (aG<|n+1) w).er=u.er:=λu w=>xd (oI _)
  have asT:∀u:St,run (cB (aG<|n+1) (.lit<|.bool ae)::B) u=run B (u.bI (aG<|n+1)<|.bool ae):=λu=>rfl
  have L:=GV (F:=run F) (Q:=λs=>s.val (aG<|n+1)=ab (.bool ae)) oc gb cV (λ_ _ k q=>(k _ (aF _)).trans q)
   (λs G hs=>(j4 oc (n+1) s G).elim λs1 Z=>by
    have kk:=Z.all
    refine⟨if bF (ev c s.er).1 then(ev (hv c<|n+1).e s1).2.bI (aG<|n+1) (.bool ae) else(ev (hv c<|n+1).e s1).2,aO (λu:St=>u.er=(ev c s.er).2) (λ_=>(eT _ _).trans Z.st) λ_=>Z.st,
     aO (λu:St=>dN (n+1) s u) (λ_ k hk=>?_) λ_=>kk,?_⟩
    ·by_cases z:k=n+1
     ·subst z;exact pZ.trans hs.symm
     ·exact(wC λw=>z<|EH w).trans (kk k hk)
    ·have e1:run F s=fO (run ((hv c<|n+1).o++[gn (hv c<|n+1).e]) s) (run (cB (aG<|n+1) (.lit<|.bool ae)::B)):=
      ay (λz=>fO z<|run (cB (aG<|n+1) (.lit<|.bool ae)::B)) ((LR _ _ s).trans ((ay (λp:V×St=>if bF p.1 then run ((hv c<|n+1).o++[gn (hv c<|n+1).e]) p.2 else ab (Sg.nx,p.2))<|kW hs).trans (a9 rfl)))
     rw[e1,<-yD,Z.gn,asT]
     cases bF (ev c s.er).1<;>rfl) 3
  let s2:=(s.bI (aG<|n+1)<|.bool ag).bI (aG<|n+1) (.bool ae)
  have e2:s2.er=s.er:=(eT _ _).trans (eT _ _)
  have e3:run (CQ (aG<|n+1) (hv c<|n+1) B) s=gN (run B s2) (ja (λs=>(ae,s)) (run F) 3):=by
   have w0:g6 (eA (.var<|aG (n+1))<|(hv c<|n+1).o++[gn (hv c<|n+1).e]) (s.bI (aG<|n+1)<|.bool ag)=ab (.nx,s.bI (aG<|n+1)<|.bool ag):=
    (LR _ _ _).trans ((ay (λp:V×St=>if bF p.1 then run ((hv c<|n+1).o++[gn (hv c<|n+1).e]) p.2 else ab (Sg.nx,p.2))<|kW pZ).trans rfl)
   have w:run F (s.bI (aG<|n+1)<|.bool ag)=run B s2:=ay (λz=>fO z<|run (cB (aG<|n+1) (.lit<|.bool ae)::B)) w0
   exact(yx _).trans (ay (gN · (ja (λs=>(ae,s)) (run F) 3)) w)
  have G2:bX ae s2.er:=e2.symm▸G
  have k2:dN n s s2:=(yC<|pz n).trans (yC<|pz n)
  refine RB.of ?_ e3
  exact(yT q (λg' s' r=>⟨(gb _ G g' s' r).1,cV s2 g' s' G2<|e2.symm▸r⟩) λg' s' t1 r0 g1 e1 k1 r=>L t1 g t (e1.symm▸g1) ((k1 _ (aF _)).trans pZ)<|e1.symm▸r).at k2 (aR n)
theorem PG{b B:af S}(gb:GB ae b)(ib:∀u g t,bX ae u.er->run b u.er=ab (g,t)->RB m u (run B u) g t):∀xs s g t,bX ae s.er->(∀x∈xs,dr s.n x)->mF (run b) xs s.er=ab (g,t)->RB m s (mF (run B) xs s) g t
 |[],s,g,t,_,_,q=>by cases q;exact⟨s,rfl,rfl,dN.refl m s⟩
 |a::xs,s,g,t,G,hf,q=>by
  have q:gN (run b<|s.er.bI ew a) (mF (run b) xs)=ab (g,t):=q
  have gp:=G.bI (x:=ew) .c (hf a<|gZ ..).ok
  have e:(s.bI ew a).er=s.er.bI ew a:=uE (Nm.c (c:=ae)).T
  exact(yT q (λg' s' r=>⟨(gb _ gp g' s' r).1,ib (s.bI ew a) g' s' (e.symm▸gp)<|e.symm▸r⟩) λg' s' t1 r0 g1 e1 _ r=>PG gb ib xs t1 g t (e1.symm▸g1) (λy hy=>(hf y<|iE _ hy).aU<|show s.n<=t1.er.n from e1▸(gb _ gp g' s' r0).2.2) (e1.symm▸r)).at ((nQ (Nm.c (c:=ae)).T).same m) (aF m)
theorem WZ{b:af S}{sa sb:az}{a d:E}(oe:aL ae h₀ (.bi (.bS sa sb) a d))(gb:GB ae b)(ib:SB b):SS (.fe (.bi (.bS sa sb) a d) b):=λn s g t G q=>by
 have ge:=cX oe _ G
 generalize hw:E.bi (.bS sa sb) a d=w at oe q ge
 have q:mF (run b) (t9 (ev w s.er).1) (ev w s.er).2=ab (g,t):=q
 refine(j4 oe n s G).elim λs1 Z=>RB.of ((PG gb (λu g t G r=>(ib (hv w n).n u g t G r).at (dN.refl n u) (dI w n)) (t9 (ev w s.er).1) (ev (hv w n).e s1).2 g t (Z.st.symm▸ge.g) (λx hx=>((GK ge.v).2 x hx).aU<|show(ev w s.er).2.n<=(ev (hv w n).e s1).2.er.n from Z.st▸aF _)<|Z.st.symm▸q).at Z.all (aF n))
  ((nR Z.dZ).trans (ay (λv=>mF (run (hB b (hv w n).n).1) (t9 v) (ev (hv w n).e s1).2) Z.val))
noncomputable def xe(p:ai×St):ai×St:=(p.1,p.2.er)
theorem P7{p:Prop}[Decidable p]{a b a' b':ai×St}(h:xe a=a')(h':xe b=b'):xe (if p then a else b)=if p then a' else b':=h▸h'▸apply_ite xe p a b
theorem KZ(h:cu c=ag)(t:St):ej c t=(if cD (ev c t).1 (.int 1) then 0 else if cD (ev c t).1 (.int 2) then 2 else 1,(ev c t).2):=br (cz.mp h)
theorem Vh(oc:aL ae h₀ c)(Z:eI (cu c) (ev c s.er) n s (hv c n) s1):xe (ej (hv c n).e s1)=ej c s.er/\dE s1 (ej (hv c n).e s1).2:=by
 cases ur:cu c with
 |true=>
  have hx:=m4 oc ur
  have ur:=rZ ur
  generalize d5 c=q at hx ur
  subst ur
  have e:s1=s:=by cases Z.dZ;rfl
  subst e
  refine⟨?_,(aO (λp:ai×St=>dE s1 p.2) (λ_=>kM) λ_=>aO (λp:ai×St=>dE s1 p.2) (λ_=>kM.trans kM) λ_=>kM.trans kM:dE s1 (if cD (s1.get q) (.int 1) then(0,s1.rd q) else if cD (s1.get q) (.int 2) then(2,(s1.rd q).rd q) else(1,(s1.rd q).rd q)).2)⟩
  exact(P7 (fD rfl (kZ hx.T))<|P7 (fD rfl ((kZ hx.T).trans (ay (·.rd q)<|kZ hx.T))) (fD rfl ((kZ hx.T).trans (ay (·.rd q)<|kZ hx.T)))).trans
   (ay (λz=>if cD z (.int 1) then(0,s1.er.rd q) else if cD z (.int 2) then(2,(s1.er.rd q).rd q) else(1,(s1.er.rd q).rd q)) (k8 hx.T).symm)
 |false=>
  have e':ej (hv c n).e s1=(if cD (ev (hv c n).e s1).1 (.int 1) then 0 else if cD (ev (hv c n).e s1).1 (.int 2) then 2 else 1,(ev (hv c n).e s1).2):=by
   cases q:cu (hv c n).e with
   |false=>exact KZ q s1|true=>
    cases Z.kind with
    |pl _ z=>exact dk (ur.symm.trans<|z q) ed|lt d z=>rw[z] at q;cases q|kp k u _ _ z hu=>
     rw[z]
     have r1:s1.rd (aG k)=s1:=ay iV (kW hu)
     show(if cD (s1.get<|aG k) (.int 1) then(0,s1.rd<|aG k) else if cD (s1.get<|aG k) (.int 2) then(2,(s1.rd<|aG k).rd<|aG k) else(1,(s1.rd<|aG k).rd<|aG k))=(if cD (s1.get<|aG k) (.int 1) then 0 else if cD (s1.get<|aG k) (.int 2) then 2 else 1,s1.rd<|aG k)
     rw[r1,r1]
     cases cD (s1.get<|aG k) (.int 1) with
     |true=>rfl|false=>cases cD (s1.get<|aG k) (.int 2)<;>rfl
  exact⟨(ay xe e').trans ((ay (λp:V×St=>((if cD p.1 (.int 1) then 0 else if cD p.1 (.int 2) then 2 else 1:ai),p.2)) Z.res).trans (KZ ur s.er).symm),(ay iV e').symm▸Z.same⟩
theorem Vj(h:kI x=ab (g,t)):∃g',x=ab (g',t)/\∀u,kI (ab (g',u))=ab (g,u):=by
 cases x with
 |none=>cases h|some p=>
  cases p with|mk g' s'=>
  cases g' with
  |_=>cases h;exact⟨_,rfl,λ_=>rfl⟩
theorem RB.cb(h:kI x=ab (g,t))(H:∀g',x=ab (g',t)->RB n s y g' t):RB n s (kI y) g t:=
 (Vj h).elim λg' z=>(H g' z.1).imp λu r=>⟨(ay kI r.1).trans (z.2 u),r.2⟩
theorem WV{bx jx:af S}(oc:aL ae h₀ c)(gx:GB ae bx)(ux:Up bx)(uy:Up jx)(ix:SB bx)(iy:SB jx):SS (.sw c bx jx):=λn s g t G q=>by
 have q:kI (if(ej c s.er).1=0 then fO (run bx (ej c s.er).2) (run jx) else if(ej c s.er).1=1 then run jx (ej c s.er).2 else ab (.nx,(ej c s.er).2))=ab (g,t):=q
 have gz:=(EO oc G).1
 refine(j4 oc (hB jx (hB bx n).2).2 s G).elim λs1 Z=>?_
 have w:=Vh oc Z
 have l2:=aj (ux n) (uy _)
 refine RB.of ?_ (nR Z.dZ:run (h1 (.sw c bx jx) n).1 s=_)
 show RB n s (kI<|if(ej (hv c (hB jx (hB bx n).2).2).e s1).1=0 then fO (run (hB bx n).1 (ej (hv c (hB jx (hB bx n).2).2).e s1).2) (run (hB jx (hB bx n).2).1) else if(ej (hv c (hB jx (hB bx n).2).2).e s1).1=1 then run (hB jx (hB bx n).2).1 (ej (hv c (hB jx (hB bx n).2).2).e s1).2 else ab (.nx,(ej (hv c (hB jx (hB bx n).2).2).e s1).2)) g t
 have ks:dN n s (ej (hv c (hB jx (hB bx n).2).2).e s1).2:=(Z.keep.aU l2).trans (w.2.same n)
 have w1:=w.1
 revert w1 ks
 generalize ej (hv c (hB jx (hB bx n).2).2).e s1=r
 generalize ej c s.er=r0 at q gz
 intro ks w1
 subst w1
 refine RB.cb q λg q=>RB.at ?_ ks (aF n)
 have q:(if r.1=0 then fO (run bx r.2.er) (run jx) else if r.1=1 then run jx r.2.er else ab (.nx,r.2.er))=ab (g,t):=q
 by_cases h0:r.1=0
 ·rw[a9 h0] at q ⊢
  exact LH q (λg' s' z=>⟨(gx _ gz g' s' z).1,ix n r.2 g' s' gz z⟩) λs' t1 g1 e1 z=>(iy.at' g1 e1 z _).at (dN.refl n t1) (ux n)
 ·rw[br h0] at q ⊢
  by_cases h1:r.1=1
  ·rw[a9 h1] at q ⊢;exact(iy _ r.2 g t gz q).at (dN.refl n _) (ux n)
  ·rw[br h1] at q ⊢;cases q;exact⟨_,rfl,rfl,dN.refl n _⟩
theorem WU{b b':af S}(gb:GB ae b)(ub:Up b')(ib:SB b)(cV:SB b'):SS (.tr b b'):=λn s g t G q=>
 (KN<|show sX (run b s.er) (run b')=ab (g,t) from q).elim λdw z=>z.elim λaA z=>z.elim λgM z=>(ib (hB b' n).2 s dw aA G z.1).elim λt1 r=>(cV.at' (gb _ G dw aA z.1).1 r.2.1 z.2.1 n).elim λt2 r2=>
  RB.qf ⟨t2,(ay (sX · (run (hB b' n).1)) r.1).trans ((ay (zG dw) r2.1).trans (z.2.2▸by cases gM<;>rfl)),r2.2.1,(r.2.2.aU<|ub n).trans r2.2.2⟩
end
theorem Lz{h:ai}{b:af S}(o:bR ae h b):SB b:=by
 refine bR.rec (motive_1:=λ_ x _=>SS x) (motive_2:=λ_ b _=>SB b) ?_ ?_ ?_ ?_ ?_ ?_ ?_ ?_ ?_ ?_ ?_ ?_ ?_ ?_ ?_ ?_ o
 ·exactλoe=>W0 oe
 ·exactλoe=>W3 oe
 ·exactλoe ey=>W2 oe ey
 ·exactλ{h k} n s g t G q=>RB.qf (by cases q;exact⟨s,rfl,rfl,dN.refl n s⟩)
 ·exactλ{h} n s g t G q=>RB.qf (by cases q;exact⟨s,rfl,rfl,dN.refl n s⟩)
 ·exactλoe=>WW oe
 ·exactλ_ ib n s g t G q=>RB.qf (ib n s g t G q)
 ·exactλoe ob oo ho ib io=>WY oe (oZ ob) ib io
 ·exactλoe ob ey fX oo ho ib cV io=>WX oe ey (oZ ob) (oZ fX) (oZ oo) ib cV io
 ·exactλoe ob ib=>WT oe (iw ob) (oZ ob) ib
 ·exactλoe ob ib=>W4 oe (iw ob) (oZ ob) ib
 ·exactλoe ob ib=>WZ oe (iw ob) ib
 ·exactλoe ox oy ix iy=>WV oe (iw ox) (oZ ox) (oZ oy) ix iy
 ·exactλob fX ib cV=>WU (iw ob) (oZ fX) ib cV
 ·exactλ{h} n s g t G q=>by cases q;exact⟨s,rfl,rfl,dN.refl n s⟩
 ·exactλ{h x r} ox or _ ix ir n s g t G q=>RB.of (LH (show fO (g6 x s.er) (run r)=ab (g,t) from q) (λg' s' z=>⟨(LV ox _ G g' s' z).1,ix n s g' s' G z⟩) λs' t1 g1 e1 z=>(ir.at' g1 e1 z (h1 x n).2).at (dN.refl n t1) ((oZ<|.cons ox .nil λ_=>bQ 3) n)) (yD _ _ _)
section
def Xs(k:ai)(vs:Vs)(x:V)(rs:Rs)(os:Os)(K:aD V->Rs->Os->Prop):Prop:=b4 (hO (.name 5) x<|vs++eW 1 aw) os λvs os=>wX (b5 a8 k) (dQ a8) (.lit<|.bool ae) rs vs os λc rs os=>lT (fM c rs) os λc os=>match c with
 |true=>wX (b5 a8 k) (dQ a8) (.aC [.var 5,.aK (.aK (.var 2)<|.lit (.str BF))<|.var 5]) rs vs os λm rs os=>b4 (jr m rs) os λp os=>K (ab p.1) p.2 os|false=>K aw rs os
end
section
variable{c:az}{t u:St}{g:Sg}{b:af S}{n h k:ai}{b8:aH}{a0 a1 a3:MV}{x:aq}{v:V}
theorem aaW(hx:x∈t.er.vars.map fK):fu x=ag/\t.vars.lookup x=ab (t.er.get x):=by
 obtain⟨p,hp,rfl⟩:=eE.mp hx
 have ht:fu p.1=ag:=pF _▸(xN.mp hp).2
 refine⟨ht,?_⟩
 have e:=CN (s:=t) ht
 have s:((t.er.vars).lookup p.1).isSome=ae:=(C2 p.1 t.er.vars).symm.trans (DU.mpr ⟨p,hp,beq_self_eq_true _⟩)
 obtain⟨w,hw⟩:=uY.mp s
 exact(e.symm.trans hw).trans (ay (λo:aD V=>ab<|o.getD As) hw).symm
theorem L4:∀l:af aq,(∀x∈l,t.vars.lookup x=ab (t.er.get x))->∀K:af V->Prop,K (l.map<|vZ t.er)->∃os,lj (Xs k [ab a0,ab a1,ab (.ref 0),ab a3,ab<|.ref 1]) (l.map .str) [t.root,.cA] os λys rs _=>K ys/\rs=[t.root,.cA]
 |[],_,K,hK=>⟨[],hK,rfl⟩
 |x::l,h,K,hK=>(L4 l (λy hy=>h y<|iE _ hy) (λys=>K<|vZ t.er x::ys) hK).imp' ([.tr 0 ae,.aK 1<|.val (t.er.get x)]++·) λos z=>
  cR (an (m5 ae [])<|an (show e9 (.vars 0) (.str x) [t.root,.cA]=ab (.val<|t.er.get x) from ay (gv MV.val)<|h x (gZ ..)) z) (by kernel_rfl)
theorem L8(o:bR c h b)(gs:bX c (me b8))(e:run b (me b8)=ab (g,t))(hn:t.n<=90000):ao (3*h+7) 65 [] [.tuple (av b),.int b8] (.val<|BB g t.er) []:=
 have gt:=(iw o _ gs g t e).1
 have Ot:=P5 gt
 have km:=abj (t:=t) ⟨gt,hn⟩
 have sm:=V2 (l:=t.er.vars.map fK) (lB Ot aa)
 ao.go [.call (.val<|bj g) [t.root],.bi 0 (.own<|.ah ((t.er.vars.map fK).map .str)),.bi 0 (.own<|.ah ((iP t.er).map .str)),.cp ((iP t.er).map<|vZ t.er) [t.root,.cA]] (λk hk z=>an (XB o (me b8) g t gs e hn k hk)<|an km (an sm<|an (an (L4 (k:=k) (a0:=.val<|.tuple (av b)) (a1:=.val<|.int b8) (a3:=.val<|bj g) (iP t.er) (λx hx=>(aaW<|ajj.mp hx).2) (·=(iP t.er).map (vZ t.er)) rfl)
   (aj (bA<|iF jn)<|aj (bA<|Ln _) (aj Ot (aa:25<=100000)))) z))
end
theorem adk{α:Type}(p:α->az):∀l:af α,(l.filter p).filter p=l.filter p:=λl=>List.filter_filter.trans (ay (l.filter ·)<|funext λa=>Bool.and_self (p a))
theorem P6(t:St):t.er.er=t.er:=ay (λl=>{t with vars:=l}) (adk _ t.vars)
theorem Xr{h:ai}{b:af S}{g:Sg}{t:St}{b8:aH}(o:bR ae h b)(ht:0+tB b<=12000)(e:run b (me b8)=ab (g,t))(hn:t.n<=90000):
  ao (3*h+7) 65 [] [.tuple (av b),.int b8] (.val<|BB g t) []/\ao (3*(2*h+3)+7) 65 [] [.tuple (av (hB b 0).1),.int b8] (.val<|BB g t) []:=by
 have s:=Lf b8
 have q:=EW b8
 obtain⟨t',e',rfl,_⟩:=Lz o 0 (me b8) g t (q.symm▸s) (q.symm▸e)
 have k:=L8 o s e hn
 rw[P6] at k
 have w:bX ag (me b8):=⟨s.bM,s.bT,s.qI,λp hp=>(s.iP p hp).wk,s.nd,s.d⟩
 exact⟨k,L8 (Pu o 0 ht) w e' hn⟩
section
variable{w w' KB d d' n A:ai}{v x y z:V}{q:aq}{t:St}{g:Sg}{xs:af V}
theorem jj.pv(h:jj q):Pv 84 1 (.str q):=(Fw h.1.2 h.2).le aa aa
theorem VE.pv(h:VE n v)(hn:n<=100000):Pv 84 1 v:=h.elim (λh=>h.pv hn) λh=>h.elim λx h=>h.1▸h.2.pv
theorem pf.pv(h:pf n v)(hn:n<=100000):Pv 255 2 v:=by
 obtain⟨q,xs,rfl,hq,l,hx⟩:=h
 exact Pv.aC (w:=84) (n:=3) (λd hd=>(dX.mp hd).elim (λe=>e▸hq.pv) λhd=>(hx d hd).pv hn) (bG l)
theorem BN(h:Pv 84 1 x)(h':Pv 84 1 y):Pv 170 2 (.tuple [x,y]):=Pv.aC (w:=84) (n:=2) (λd hd=>(dX.mp hd).elim (λe=>e▸h) λhd=>cU.mp hd▸h') (aF 2)
theorem Pv.EK(h:Pv w d x)(h':Pv w' d y)(fv:Pv KB d z):Pv (w+1+(w'+1+(KB+1+0))) (d+1) (.tuple [x,y,z]):=
 ⟨dc.mpr ⟨h.s,dc.mpr ⟨h'.s,dc.mpr ⟨fv.s,rfl⟩⟩⟩,dc.mpr ⟨h.l,dc.mpr ⟨h'.l,dc.mpr ⟨fv.l,rfl⟩⟩⟩,
  cQ (bG h.w) (cQ (bG h'.w)<|cQ (bG fv.w) (aF 0)),bG<|xK.mpr ⟨h.d,xK.mpr ⟨h'.d,xK.mpr ⟨fv.d,bQ d⟩⟩⟩⟩
theorem Wn(h:C8 n g)(hn:n<=100000):Pv 170 2 (bj g):=by
 cases g with
 |nx=>exact⟨rfl,rfl,bQ _,bQ _⟩|bk=>exact BN (jj.pv ⟨aa,aa⟩) ((Fx (i:=1) aa).le aa aa)|ct=>exact BN (jj.pv ⟨aa,aa⟩) ((Fx (i:=1) aa).le aa aa)|rt v=>exact BN (jj.pv ⟨aa,aa⟩) (bu.pv (show bu n v from h) hn)
theorem Xq(gt:bX ae t)(sg:C8 t.n g)(hn:t.n<=3300)(he:t.er=t):o8 (BB g t):=by
 have h5:t.n<=100000:=aj hn aa
 have lg:Pv ((255+1)*3300) 3 (.list t.bM):=Pv.ah (λd hd=>(gt.qI d hd).pv h5) (aj gt.bM hn)
 have ln:(iP t).length<=25:=aj (bA<|Ln _) (he▸P5 gt)
 have vr:Pv ((170+1)*25) 3 (.list<|(iP t).map (vZ t)):=Pv.ah (λd hd=>by
  obtain⟨x,hx,rfl⟩:=eE.mp hd
  obtain⟨p,hp,rfl⟩:=eE.mp (ajj.mp hx)
  exact BN (gt.iP p hp).ok.pv<|(gt.get p.1).pv h5) (aj (bA<|iF _) ln)
 exact(((Wn sg h5).le (aF 170) aa).EK lg vr).nP aa aa
theorem TL.nP:∀{xs:af V},TL A 0 d xs->A<=1048576->d<=100->∀x∈xs,o8 x
 |[],_,_,_,x,h=>nomatch h|y::ys,t,hA,hd,x,h=>by
  have s:=dc.mp t.s
  have l:=dc.mp t.l
  have w:(y.weight+1)+DD ys<=A:=t.w
  have k:=xK.mp t.d
  exact(dX.mp h).elim (λe=>e▸Pv.nP (w:=A) (d:=d) ⟨s.1,l.1,eL (aj (aW _ _) w),k.1⟩ hA hd) λh=>TL.nP ⟨s.2,l.2,aj (bY _ _) w,k.2,t.b.2⟩ hA hd x h
end
section
def Xl(k:ai)(vs:Vs)(x:V)(rs:Rs)(os:Os)(K:aD V->Rs->Os->Prop):Prop:=b4 (hO (.name 8) x<|vs++eW 1 aw) os λvs os=>wX (b5 a8 k) (dQ a8) (.lit<|.bool ae) rs vs os λc rs os=>lT (fM c rs) os λc os=>match c with
 |true=>wX (b5 a8 k) (dQ a8) (.bi .repr<|.var 8) rs vs os λm rs os=>b4 (jr m rs) os λp os=>K (ab p.1) p.2 os|false=>K aw rs os
def B3(k:ai)(x:V)(rs:Rs)(vs:Vs)(os:Os)(K:Fl->Rs->Vs->Os->Prop):Prop:=b4 (hO (.name 7) x vs) os λvs os=>dK (b5 a8 k) (dQ a8) [
 .ite (.cw ae [.not (.call 66 [.var 7]),.au .lJ (.bi .repr<|.var 7)<|.comp (.bi .repr<|.var 8) 1 (.name 8) .plain (.var 6) (.lit<|.bool ae)]) [.ret<|.lit (.bool ag)] []] rs vs os K
end
section
variable{k:ai}{x:V}{rs:Rs}{a0 a1 a2 a3 a4 a5:MV}{ys:af V}{q:az}
theorem L1:∀zs:af V,(∀y∈zs,o8 y)->∀K:af V->Prop,K (zs.map λy=>.str y.shown)->∃os,lj (Xl k [ab a0,ab a1,ab a2,ab a3,ab a4,ab a5,ab (.val<|.tuple ys),ab<|.val x]) zs rs os λus cj _=>K us/\cj=rs
 |[],_,K,hK=>⟨[],hK,rfl⟩
 |y::zs,h,K,hK=>(L1 zs (λz hz=>h z<|iE _ hz) (λus=>K<|.str y.shown::us) hK).imp' ([.tr 0 ae,.bi 0<|.val (.str y.shown)]++·) λos z=>
  cR (an (m5 ae rs)<|an (tv<|h y (gZ ..)) z) (by kernel_rfl)
theorem ab2(h:x∈ys):cv .lJ (.val<|.str x.shown) (.own<|.ah (ys.map λv=>.str v.shown)) rs=ab ag:=by
 show gv (!·) (if min (mT<|ys.map λv=>jn v.shown) (jC<|.str x.shown)<=100 then ab ((ys.map λv=>jn v.shown).any λy=>jZ y<|.str x.shown) else aw)=_
 rw[a9 (aj (u3 _ _)<|show jC (.str x.shown)<=100 from bQ 100),DU.mpr ⟨.str x.shown,eE.mpr ⟨x,h,rfl⟩,(qH _ _).trans (beq_self_eq_true _)⟩];rfl
theorem Gn{xs:af V}{K:Fl->Rs->Vs->Os->Prop}{w:aD MV}(hq:b5 a8 k 66 [] [x] (.val<|.bool q) [])(hm:q=ag->x∈ys)(hs:∀y∈ys,o8 y)(hx:o8 x)(hl:ys.length<=100000)
  (z:∃os,je (B3 k) xs rs [ab a0,ab a1,ab a2,ab a3,ab a4,ab a5,ab (.val<|.tuple ys),ab<|.val x] os K):∃os,je (B3 k) (x::xs) rs [ab a0,ab a1,ab a2,ab a3,ab a4,ab a5,ab (.val<|.tuple ys),w] os K:=by
 cases q with
 |true=>exact z.imp' ([.call (.val<|.bool ae) [],.tr 0 ae,.tr 0 ag,.tr 0 ag]++·) λos z=>cR (an hq<|an (m5 ae rs) (an (m5 ag rs)<|an (m5 ag rs) z)) (by kernel_rfl)|false=>
  have c:=L1 (k:=k) (rs:=rs) (a0:=a0) (a1:=a1) (a2:=a2) (a3:=a3) (a4:=a4) (a5:=a5) (ys:=ys) (x:=x) ys hs (·=ys.map λv=>.str v.shown) rfl
  exact z.imp' ([.call (.val<|.bool ag) [],.tr 0 ag,.tr 0 ae,.bi 0 (.val<|.str x.shown),.cp (ys.map λv=>.str v.shown) rs,.au 0 ag,.tr 0 ag]++·) λos z=>cR (an hq<|an (m5 ag rs) (an (m5 ae rs)<|an (tv hx) (an (an c hl)<|an (ab2 (rs:=rs)<|hm rfl) (an (m5 ag rs) z)))) (by kernel_rfl)
end
section
def sm(k:ai)(ns:af aH):aH:=(kr k ns).sum
noncomputable def Cb:af V:=([0,7,0,0,1,0,0,8,0,0,3,0,0]:af aH).map .int
noncomputable def Ca:af V:=([6,6,0,1,1,0,0,2,0,0,1,1,15,0,0,1,0,3,3,0,0,13,0,0,1,0,3,3,0,0,3,1]:af aH).map .int
noncomputable def y9:af V:=([5,1,9,0,0,1,0,0,2,0,0,0,0,17,0,0,3,0,0,3,0,0,18,0,2,2,0,0,0,0,0,0,2,23,1,0,3,0,0,0,0,1,10,0,0,1,0,0,3,0,0,5,0,0,1,0,1,3,0,0]:af aH).map .int
noncomputable def kz:aH:=1000000000000000000000000000000000000000000000000000000000000000000000000000000000000000000000000000000000000000000000000
def Gg(ns:af aH)(b m:af V)(v:aD MV):Vs:=[ab (.val<|.list (ns.map .int)),ab (.ref 0),ab (.val<|.tuple b),ab (.val<|.int 2),ab (.val<|.list y9),ab (.val<|.int (sm 3 ns)),ab (.val<|.tuple m),v]
end
theorem adB{α β:Type}(f:α->β)(k:ai)(l:af α):kr k (l.map f)=(kr k l).map f:=by
 unfold kr
 simp only [iF,u7,List.map_filterMap]
theorem OP:∀l:af aH,zo (l.map .int)=ab l
 |[]=>rfl|x::l=>ay (gv (x::·)) (OP l)
section
variable{ns:af aH}{rs:Rs}
theorem Bu(k:ai)(hk:k<=100000)(h:ns.length<=63):Lx (.val<|.list (ns.map .int)) (.val<|.int (k:aH)) rs=ab (.own<|.ah ((kr k ns).map .int)):=
 (a9 ⟨⟨xQ k,ve.mpr hk⟩,aj (bA<|iF iq)<|aj h aa⟩).trans (ay (λl=>ab<|MV.own (.ah l))<|adB iq k ns)
theorem Bl(l:af aH):gY .sum (.list<|l.map .int)=ab (.val<|.int l.sum):=ay (gv λns:af aH=>MV.val<|.int ns.sum) (OP l)
theorem Ga(x:aH):ky .jR (.int x) (.int kz)=ab (.val<|.int (x%kz)):=F9 (show(0:aH)<1000000000000000000000000000000000000000000000000000000000000000000000000000000000000000000000000000000000000000000000000 by decide)
theorem aae(s:aq):cv .ne (.val<|.str s) (.val<|.str s) rs=ab ag:=(B1 s s rs).trans (ay (λb=>ab<|!b)<|beq_self_eq_true s.cps.toList)
theorem XV:ao 1 41 [] [] (.own<|.ah [.list Cb,.list Ca,.list y9]) []:=ao.go [] λ_ _ z=>z
end
theorem Un{n:ai}{ns:af aH}{a1 a2 a3 R:V}{x1 x2 x3 y1 y2 y3 m:af V}(h:ns.length<=63)(hn:1<=n)
  (r1:ao n 45 [.ah (.int (sm 0 ns%kz)::Cb),.ah []] [.int 2,.bool ag] (.val a1) [.ah x1,.ah y1])
  (r2:ao n 45 [.ah (.int (sm 1 ns%kz)::Ca),.ah y1] [.int 2,.bool ag] (.val a2) [.ah x2,.ah y2])
  (r3:ao n 45 [.ah (.int (sm 2 ns%kz)::y9),.ah y2] [.int 2,.bool ag] (.val a3) [.ah x3,.ah y3])
  (q3:ao n 32 [] [.tuple [a1,a2,a3]] (.val<|.tuple m) [])(q2:ao n 65 [] [.tuple m,.int<|sm 3 ns] (.val R) [])(q1:ao n 65 [] [.tuple [a1,a2,a3],.int<|sm 3 ns] (.val R) [])(sw:o8 R)(q4:ao n 68 [] [.tuple m] (.val<|.bool ae) [])
  (lo:∀k,n<=k->∃os,je (B3 k) [a1,a2,a3] [.ah y3,.ah [a1,a2,a3]] (Gg ns [a1,a2,a3] m aw) os λfl rs vs _=>fl=.nx/\rs=[.ah y3,.ah [a1,a2,a3]]/\vs=Gg ns [a1,a2,a3] m (ab<|.val a3)):
  ao (n+1) 69 [] [.list<|ns.map .int] (.val<|.bool ae) []:=
 ao.go [.call (.own<|.ah [.list Cb,.list Ca,.list y9]) [],
  .dU 0 (.own<|.ah ((kr 0 ns).map .int)),.bi 0 (.val<|.int (sm 0 ns)),.bq 0 (.val<|.int (sm 0 ns%kz)),.call (.val a1) [.ah x1,.ah y1],
  .dU 0 (.own<|.ah ((kr 1 ns).map .int)),.bi 0 (.val<|.int (sm 1 ns)),.bq 0 (.val<|.int (sm 1 ns%kz)),.call (.val a2) [.ah x2,.ah y2],
  .dU 0 (.own<|.ah ((kr 2 ns).map .int)),.bi 0 (.val<|.int (sm 2 ns)),.bq 0 (.val<|.int (sm 2 ns%kz)),.call (.val a3) [.ah x3,.ah y3],
  .dU 0 (.own<|.ah ((kr 3 ns).map .int)),.bi 0 (.val<|.int (sm 3 ns)),
  .call (.val<|.tuple m) [],.call (.val R) [],.bi 0 (.val<|.str R.shown),.call (.val R) [],.bi 0 (.val<|.str R.shown),.au 0 ag,.call (.val<|.bool ae) [],
  .lp .nx [.ah y3,.ah [a1,a2,a3]] (Gg ns [a1,a2,a3] m<|ab (.val a3))] (λk hk z=>an (XV k<|aj hn hk)
   (an (Bu (rs:=[]) 0 aa h)<|an (Bl<|kr 0 ns) (an (Ga<|sm 0 ns)<|an (r1 k hk)
   (an (Bu (rs:=[]) 1 aa h)<|an (Bl<|kr 1 ns) (an (Ga<|sm 1 ns)<|an (r2 k hk)
   (an (Bu (rs:=[]) 2 aa h)<|an (Bl<|kr 2 ns) (an (Ga<|sm 2 ns)<|an (r3 k hk)
   (an (Bu (rs:=[]) 3 aa h)<|an (Bl<|kr 3 ns)
   (an (q3 k hk)<|an (q2 k hk) (an (tv sw)<|an (q1 k hk) (an (tv sw)<|an (aae (rs:=[.ah y3,.ah [a1,a2,a3]]) R.shown) (an (q4 k hk)<|an (lo k hk) z))))))))))))
theorem K6{h:ai}:∀{b:af S},bR ae h b->∀(n:ai){x:S},x∈b->YS x=ag->aM x∈av (hB b n).1
 |[],_,_,_,h,_=>nomatch h|y::r,.cons oy or _,n,x,hx,q=>by
  show aM x∈av ((h1 y n).1++(hB r (h1 y n).2).1)
  rw[uF]
  exact(dX.mp hx).elim (λe=>pB _ (by rw[<-e,Pw (e▸oy) q n];exact gZ ..)) λhx=>u6 _ (K6 or _ hx q)
theorem HD{h:ai}{x:S}(o:fH ae h x):bg (aM x)=YS x:=(cJ _).symm.trans ((acI<|.cons o .nil λ_=>bQ 3).trans (cJ _))
theorem aa6{x1 x2 x3:S}{hi:ai}(d1:DS 9 765 1098 0 hi x1)(d2:DS 9 765 1098 0 hi x2)(d3:DS 9 765 1098 0 hi x3)(b8:aH):
  ∃R,o8 R/\ao 200 32 [] [.tuple<|av [x1,x2,x3]] (.val<|.tuple (av (hB [x1,x2,x3] 0).1)) []/\ao 200 65 [] [.tuple (av (hB [x1,x2,x3] 0).1),.int b8] (.val R) []/\ao 200 65 [] [.tuple (av [x1,x2,x3]),.int b8] (.val R) []/\ao 200 68 [] [.tuple<|av (hB [x1,x2,x3] 0).1] (.val<|.bool ae) []/\
   (∀k,200<=k->∀(rs:Rs)(a0 a1 a2 a3 a4 a5:MV)(w:aD MV),∃os,je (B3 k) [aM x1,aM x2,aM x3] rs [ab a0,ab a1,ab a2,ab a3,ab a4,ab a5,ab (.val<|.tuple (av (hB [x1,x2,x3] 0).1)),w] os λfl cj vs _=>fl=.nx/\cj=rs/\vs=[ab a0,ab a1,ab a2,ab a3,ab a4,ab a5,ab (.val<|.tuple (av (hB [x1,x2,x3] 0).1)),ab<|.val (aM x3)]):=by
 have ok:bR ae 9 [x1,x2,x3]:=.cons d1.ok (.cons d2.ok (.cons d3.ok .nil λ_=>bJ rfl) λ_=>bJ rfl) λ_=>bJ rfl
 have t:tB [x1,x2,x3]<=2295:=cQ d1.l (cQ d2.l<|cQ d3.l (aF 0))
 have E:dF 0 hi (1098+(1098+1098)) (me b8) (run [x1,x2,x3]<|me b8):=(d1.a6 _).seq λs=>(d2.a6 s).seq λs=>yS (d3.a6 s)
 obtain⟨g,u,er,fr⟩:=E
 have hn:u.n<=3300:=aj (show u.n<=0+(1098+(1098+1098)) from fr.n) (bJ rfl)
 have s:=Lf b8
 have rb:=Xr ok (aj (bA<|kC _)<|aj t (bJ rfl)) er (aj hn<|bJ rfl)
 have gd:=iw ok _ s g u er
 have ue:u.er=u:=by
  obtain⟨u',_,e,_⟩:=Lz ok 0 (me b8) g u ((EW b8).symm▸s) ((EW b8).symm▸er)
  exact e▸P6 u'
 have sw:=Xq gd.1 gd.2.1 hn ue
 have q3:=XM ok (bJ rfl) (aj t<|bJ rfl)
 have oh:=Pu ok 0 (aj (bA<|kC _)<|aj t (bJ rfl))
 have th:=aj (acL ok 0) (lA 8 t)
 have T:=Qc oh (aj th<|bJ rfl)
 have len:(av (hB [x1,x2,x3] 0).1).length<=90000:=aj (bA<|qJ _) (aj (Gs _)<|aj th (bJ rfl))
 have q4:=Xy (acN ok 0) 86 ⟨T.b,T.d,len⟩
 have T0:=Qc ok (aj t<|bJ rfl)
 have sh:=T.nP (aj (lA 40 th)<|bJ rfl) (bJ rfl)
 have s0:=T0.nP (aj (lA 40 t)<|bJ rfl) (bJ rfl)
 have nb:mO 38 (av [x1,x2,x3]):=⟨T0.b,T0.d,bJ rfl⟩
 have st:=λ(x:S) hx q=>K6 ok 0 (x:=x) hx q
 refine⟨_,sw,q3.aU (bJ rfl),rb.2.aU (bJ rfl),rb.1.aU (bJ rfl),q4.aU (bJ rfl),λk hk rs a0 a1 a2 a3 a4 a5 w=>?_⟩
 have Hj:38+100<=k:=aj (bJ rfl) hk
 have L:=aj len (bJ rfl:90000<=100000)
 have m2:x2∈[x1,x2,x3]:=iE _ (gZ ..)
 have m3:x3∈[x1,x2,x3]:=iE _ (iE _ (gZ ..))
 have v2:aM x2∈av [x1,x2,x3]:=iE _ (gZ ..)
 have v3:aM x3∈av [x1,x2,x3]:=iE _ (iE _ (gZ ..))
 exact Gn (nb.h.has (HD d1.ok) Hj) (st x1<|gZ ..) sh (s0 _ (gZ ..)) L
  (Gn (nb.t.h.has (HD d2.ok) Hj) (st x2 m2) sh (s0 _ v2) L
  (Gn (nb.t.t.h.has (HD d3.ok) Hj) (st x3 m3) sh (s0 _ v3) L ⟨[],rfl,rfl,rfl⟩))
theorem DS.in{h t K lo hi H:ai}{x:S}(d:DS h t K lo hi x)(w:hi<=H):DS h t K 0 H x:=d.hZ (bQ _) w
theorem XH(ns:af aH)(h:ns.length<=63):ao 201 69 [] [.list<|ns.map .int] (.val<|.bool ae) []:=by
 obtain⟨s1,x1,y1,p1,w1,d1,r1⟩:=E5 (.int (sm 0 ns%kz)::Cb) [] ag ⟨_,_,rfl,bJ rfl⟩ (bJ rfl)
 obtain⟨s2,x2,y2,p2,w2,d2,r2⟩:=E5 (.int (sm 1 ns%kz)::Ca) y1 ag ⟨_,_,rfl,bJ rfl⟩ (w1.rD (c':=6)<|bJ rfl)
 obtain⟨s3,x3,y3,p3,w3,d3,r3⟩:=E5 (.int (sm 2 ns%kz)::y9) y2 ag ⟨_,_,rfl,bJ rfl⟩ ((w1.trans w2).rD (c':=6)<|bJ rfl)
 obtain⟨R,sw,q3,q2,q1,q4,lo⟩:=aa6 (d1.in<|aj w2.1 w3.1) (d2.in w3.1) (d3.in<|aF _) (sm 3 ns)
 have l:11<=200:=bJ rfl
 exact Un h (bJ rfl) (r1.aU l) (r2.aU l) (r3.aU l) q3 q2 q1 sw q4 λk hk=>lo k hk _ _ _ _ _ _ _ _
end L
structure Sc where
 slots:af (aq×eK)
 names:af (aq×eK)
noncomputable def ju:aq:=⟨#[108,101,110]⟩
noncomputable def ND:aq:=⟨#[108,105,115,116]⟩
noncomputable def F6:aq:=⟨#[116,117,112,108,101]⟩
noncomputable def NF:aq:=⟨#[105,110,116]⟩
noncomputable def F7:aq:=⟨#[115,116,114]⟩
noncomputable def Nz:aq:=⟨#[115,117,109]⟩
noncomputable def NA:aq:=⟨#[115,111,114,116,101,100]⟩
noncomputable def NB:aq:=⟨#[114,101,112,114]⟩
noncomputable def yW:aq:=⟨#[105,115,105,110,115,116,97,110,99,101]⟩
noncomputable def wN:aq:=⟨#[114,97,110,103,101]⟩
noncomputable def wO:aq:=⟨#[101,110,117,109,101,114,97,116,101]⟩
noncomputable def aas:aq:=⟨#[97,112,112,101,110,100]⟩
noncomputable def aar:aq:=⟨#[101,120,116,101,110,100]⟩
noncomputable def NC:aq:=⟨#[112,111,112]⟩
noncomputable def aaq:aq:=⟨#[103,101,116]⟩
noncomputable def aao:aq:=⟨#[106,111,105,110]⟩
noncomputable def nh{α:Type}[DecidableEq α]:af α->az
 |[]=>ae|x::xs=>!xs.contains x&&nh xs
section
def qM:Bi->aq
 | .len=>ju| .list=>ND| .tuple=>F6| .sum=>Nz| .rA=>NA| .repr=>NB| .str=>F7| .n5=>F6| .uh=>NF| .qq=>F7
noncomputable def wW:Bi->az
 | .n5=>ae| .uh=>ae| .qq=>ae|_=>ag
def Gb:Me->aq
 | .append=>aas| .kU=>aar| .p9=>NC| .nW=>NC| .nr=>aaq| .join=>aao
def ab5:IK->aq
 | .nz=>wO|_=>wN
noncomputable def FK:Ai->Operator
 | .add=>.Add| .sub=>.Sub| .mul=>.Mult| .fdiv=>.FloorDiv| .jR=>.Mod
def uK:uP->CmpOp
 | .eq=>.Eq| .ne=>.NotEq| .lt=>.Lt| .le=>.LtE| .gt=>.Gt| .is=>.Is| .kh=>.IsNot| .dt=>.In| .lJ=>.NotIn
noncomputable def zN:V->Const
 | .bool b=>.bool b| .int i=>.int i| .str s=>.str s|_=>.none
noncomputable def ui:V->az
 | .none=>ae| .bool _=>ae| .int _=>ae| .str s=>fc s|_=>ag
def lL{α:Type}(e:aX)(f:ai->aq->af aX->af aX->af (aD aX)->af aiL->gR->az->α):α:=match e with
 | .BinOp l _ r _=>f 0 ju [l,r] [] [] [] default ae| .UnaryOp _ e _=>f 0 ju [e] [] [] [] default ag| .IfExp t a b _=>f 0 ju [t,a,b] [] [] [] default ag| .Compare l _ rs _=>f 0 ju (l::rs) [] [] [] default ag| .Call g as _ _=>f 0 ju [g] as [] [] default ag| .Attribute v _ _=>f 0 ju [v] [] [] [] default ag| .Subscript v s _=>f 0 ju [v,s] [] [] [] default ag| .ListComp e gs s _=>f 0 ju [e] [] [] gs s ag| .BoolOp _ vs _=>f 0 ju [] vs [] [] default ag| .Tuple es k _=>f k ju [] es [] [] default ag| .List es _=>f 0 ju [] es [] [] default ag| .Dict ks vs _=>f 0 ju [] vs ks [] default ag| .Constant _ k _=>f k ju [] [] [] [] default ag| .Slice l h s _=>f 0 ju [] [] [l,h,s] [] default ag| .Name id _=>f 0 id [] [] [] [] default ag|_=>f 0 ju [] [] [] [] default ag
noncomputable def oR{α:Type}(d:α)(l:af α):ai->α
 |0=>match l with
  |a::_=>a|[]=>d
 |n+1=>oR d l.tail n
def k0(e:aX):aX:=lL e λ_ _ s _ _ _ _ _=>oR e s 0
def k1(e:aX):aX:=lL e λ_ _ s _ _ _ _ _=>oR e s 1
def k2(e:aX):aX:=lL e λ_ _ s _ _ _ _ _=>oR e s 2
def cL(e:aX):af aX:=lL e λ_ _ _ k _ _ _ _=>k
def tZ(e:aX):af (aD aX):=lL e λ_ _ _ _ k _ _ _=>k
def kd(e:aX):ai:=lL e λk _ _ _ _ _ _ _=>k
def B6(e:aX):aD aX:=oR aw (tZ e) 0
def Pb(e:aX):aD aX:=oR aw (tZ e) 1
def Lc(e:aX):aD aX:=oR aw (tZ e) 2
def g8(e:aX):aiL:=lL e λ_ _ _ _ _ g _ _=>oR ⟨e,e,[],0⟩ g 0
def tp(e:aX):gR:=lL e λ_ _ _ _ _ _ s _=>s
def wV(e:aX):az:=lL e λ_ _ _ _ _ _ _ p=>p
def oU(e:aX):aq:=lL e λ_ x _ _ _ _ _ _=>x
def hd(es:af aX):aX:=oR default es 0
noncomputable def get(o:aD aX):aX:=o.getD default
def wG(es:af (aD aX)):aX:=get (oR aw es 0)
def nm(sc:Sc)(i:ai):aq:=match sc.slots[i]? with
 |some p=>p.1|none=>ju
def yp(sc:Sc):Tg->af aq
 | .name i=>[nm sc i]
 | .aC is=>is.map (nm sc)
noncomputable def names:af aq->af aX->af aX
 |[],_=>[]
 |x::xs,es=>.Name x (hd es).pos::names xs es.tail
def gG(sc:Sc)(tg:Tg)(e:aX):aX:=match tg with
 | .name i=>.Name (nm sc i) e.pos| .aC is=>.Tuple (names (is.map<|nm sc)<|cL e) (kd e) e.pos
def zj(k:IK)(it:aX):aX:=match k with
 | .plain=>it|_=>hd (cL it)
def k9(k:IK)(it:aX)(arg:aX->aX):aX:=match k with
 | .plain=>arg it|k=>.Call (.Name (ab5 k) (k0 it).pos) [arg<|hd (cL it)] [] it.pos
noncomputable def uj(sc:Sc)(n:aq)(k:eK):eK:=if k=.free/\sc.names.lookup n=ab .cell then .cell else k
noncomputable def tP(k:eK):eK:=if k=.cell then .cell else .free
def fS(sc:Sc)(scope:gR)(own:af aq):Sc:=
 {slots:=(sc.slots.map λx=>(x.1,tP x.2))++own.map λn=>(n,.local),names:=scope.names.map λx=>(x.1,uj sc x.1 x.2)}
def rK(e:aX):af aq:=match cL (g8 e).target with
 |[]=>[oU (g8 e).target]
 |ts=>ts.map oU
def mA(sc:Sc)(e:aX):Sc:=fS sc (tp e) (rK e)
def H6(sc:Sc)(scope:gR)(own:af aq):az:=
 decide (scope.kind=.function)&&scope.names.all (λx=>(decide (x.2≠.cell))&&(decide (x.2≠.free)||decide (sc.names.lookup x.1=ab .cell)))&&nh (scope.names.map (·.1))&&
  own.all (λn=>decide (scope.names.lookup n=ab .local))&&nh own
noncomputable def n4:af aq->af (aD aX)->af (aD aX)
 |[],_=>[]
 |k::ks,es=>ab (.Constant (.str k) (kd<|wG es) (wG es).pos)::n4 ks es.tail
noncomputable def Cc:af aH->af (aD aX)->af (aD aX)
 |[],_=>[]
 |k::ks,es=>ab (.Constant (.int k) (kd<|wG es) (wG es).pos)::Cc ks es.tail
noncomputable def zO:af V->af aX->af aX
 |[],_=>[]
 |d::ds,es=>.Constant (zN d) (kd<|hd es) (hd es).pos::zO ds es.tail
noncomputable def y4{α:Type}(x:X)(f:az->az->az->az->aD V->α):α:=match x with
 | .lit d=>f (match d with| .str _=>ae|_=>ag) ae ae ae (ab d)| .var _=>f ae ae ae ae aw| .aK _ _=>f ae ae ae ae aw| .comp _ _ _ _ _ _=>f ag ag ae ag aw| .tY _=>f ag ag ag ag aw| .aC _=>f ag ae ae ag aw|_=>f ag ae ae ae aw
def Gp(x:X):aD V:=y4 x λ_ _ _ _ d=>d
noncomputable def OL(o:aD V):az:=match o with
 |some d=>match d with
  | .none=>ae|_=>ag
 |none=>ag
noncomputable def OJ(o:aD V):az:=match o with
 |some d=>match d with
  | .bool b=>b|_=>ag
 |none=>ag
def r9(x:X):az:=OL (Gp x)
def ug(x:X):az:=OJ (Gp x)
mutual
noncomputable def cI:X->Sc->aX->aX
 | .var i,sc,e=>.Name (nm sc i) e.pos| .lit d,_,e=>match wV e with
  |true=>.BinOp (.Constant (.int 10) (kd<|k0 e) (k0 e).pos) .Pow (.Constant (.int 120) (kd<|k1 e) (k1 e).pos) e.pos|false=>.Constant (zN d) (kd e) e.pos
 | .bq o x y,sc,e=>.BinOp (cI x sc<|k0 e) (FK o) (cI y sc<|k1 e) e.pos| .neg x,sc,e=>.UnaryOp .USub (cI x sc<|k0 e) e.pos| .not x,sc,e=>.UnaryOp .Not (cI x sc<|k0 e) e.pos| .cw s xs,sc,e=>.BoolOp (match s with|true=>.And|false=>.Or) (mI xs sc<|cL e) e.pos| .ite x y z,sc,e=>.IfExp (cI x sc<|k0 e) (cI y sc<|k1 e) (cI z sc<|k2 e) e.pos| .au o x y,sc,e=>.Compare (cI x sc<|k0 e) [uK o] [cI y sc<|k1 e] e.pos| .aC xs,sc,e=>.Tuple (mI xs sc<|cL e) (kd e) e.pos| .ah xs,sc,e=>.List (mI xs sc<|cL e) e.pos| .fb ks xs,sc,e=>.Dict (n4 ks<|tZ e) (mI xs sc<|cL e) e.pos| .jg ks xs,sc,e=>.Dict (Cc ks<|tZ e) (mI xs sc<|cL e) e.pos| .xj bc,_,e=>.Dict (n4 (bc.map (·.1))<|tZ e) (zO (bc.map (·.2))<|cL e) e.pos| .yq xs,sc,e=>.Dict (n4 [ze,zg,rW,zf]<|tZ e) (mI xs sc<|cL e) e.pos| .aK x y,sc,e=>.Subscript (cI x sc<|k0 e) (cI y sc<|k1 e) e.pos| .dU x y z,sc,e=>.Subscript (cI x sc<|k0 e) (.Slice (match r9 y with|true=>aw|false=>ab<|cI y sc (get<|B6 (k1 e))) (match r9 z with|true=>aw|false=>ab<|cI z sc (get<|Pb (k1 e))) aw (k1 e).pos) e.pos| .vV x y,sc,e=>.Subscript (cI x sc<|k0 e) (.Slice (ab<|cI y sc (get<|B6 (k1 e))) aw (ab<|.Constant (.int 4) (kd<|get (Lc<|k1 e)) (get<|Lc (k1 e)).pos) (k1 e).pos) e.pos| .call f xs,sc,e=>.Call (.Name (oU<|k0 e) (k0 e).pos) (mI xs sc<|cL e) [] e.pos| .bi b x,sc,e=>match wW b with
  |true=>.Call (.Name yW (k0 e).pos) [cI x sc (hd<|cL e),.Name (qM b) (hd (cL e).tail).pos] [] e.pos|false=>.Call (.Name (qM b) (k0 e).pos) [cI x sc<|hd (cL e)] [] e.pos
 | .bw m x xs,sc,e=>.Call (.Attribute (cI x sc<|k0 (k0 e)) (Gb m) {(k0 e).pos with endLine:=e.pos.line}) (mI xs sc<|cL e) [] e.pos| .comp el ni tg k x co,sc,e=>.ListComp (cI el (mA sc e)<|k0 e) [⟨gG (mA sc e) tg (g8 e).target,k9 k (g8 e).iter (cI x sc),(match ug co with|true=>[]|false=>[cI co (mA sc e)<|hd (g8 e).ifs]),0⟩] (tp e) e.pos| .tY x,sc,e=>.ListComp (.Name (oU<|k0 e) (k0 e).pos) [⟨.Name (oU<|k0 e) (g8 e).target.pos,cI x sc (g8 e).iter,
   [.Compare (.Subscript (.Name (oU<|k0 e) (k0<|k0 (hd (g8 e).ifs)).pos) (.Constant (.int 0) (kd<|k1 (k0<|hd (g8 e).ifs)) (k1<|k0 (hd (g8 e).ifs)).pos) (k0<|hd (g8 e).ifs).pos) [.NotEq] [.Constant (.str ⟨#[35]⟩) (kd<|k1 (hd (g8 e).ifs)) (k1<|hd (g8 e).ifs).pos] (hd (g8 e).ifs).pos],0⟩] (tp e) e.pos
noncomputable def mI:af X->Sc->af aX->af aX
 |[],_,_=>[]
 |x::xs,sc,es=>cI x sc (hd es)::mI xs sc es.tail
end
section
variable(c0:aq->aD ai)
noncomputable def iK(sc:Sc)(i:ai):az:=match sc.slots[i]? with
 |some p=>(decide (p.2=.local)||decide (p.2=.cell))&&decide (sc.names.lookup p.1=ab p.2)&&!(p.1==("__debug__":aq))|none=>ag
noncomputable def kT(sc:Sc)(x:aq):az:=decide (sc.names.lookup x=ab .globalImplicit)&&!(x==("__debug__":aq))
def pM(sc:Sc):Tg->az
 | .name i=>iK sc i| .aC is=>is.all (iK sc)&&nh is&&decide (2<=is.length)
def zk(sc:Sc)(k:IK)(tg:Tg):az:=match k with
 | .plain=>ae| .range=>kT sc wN| .nz=>kT sc wO&&match tg with
  | .name _=>ag| .aC _=>ae
noncomputable def Rq(m:Me)(n:ai):az:=match m with
 | .p9=>decide (n=0)| .nr=>decide (n=2)|_=>decide (n=1)
def FP(x:X):az:=y4 x λb _ _ _ _=>b
noncomputable def GS(d:V):az:=match d with
 | .int i=>i==1000000000000000000000000000000000000000000000000000000000000000000000000000000000000000000000000000000000000000000000000|_=>ag
mutual
noncomputable def d4:X->Sc->aX->az
 | .var i,sc,_=>iK sc i| .lit d,_,e=>match wV e with
  |true=>GS d|false=>ui d
 | .bq _ x y,sc,e=>d4 x sc (k0 e)&&d4 y sc (k1 e)| .neg x,sc,e=>d4 x sc (k0 e)| .not x,sc,e=>d4 x sc (k0 e)| .cw _ xs,sc,e=>oP xs sc (cL e)| .ite x y z,sc,e=>d4 x sc (k0 e)&&(d4 y sc (k1 e)&&d4 z sc (k2 e))| .au _ x y,sc,e=>d4 x sc (k0 e)&&d4 y sc (k1 e)| .aC xs,sc,e=>oP xs sc (cL e)&&decide (xs.length<=1000)| .ah xs,sc,e=>oP xs sc (cL e)&&decide (xs.length<=1000)| .fb ks xs,sc,e=>oP xs sc (cL e)&&(decide (ks.length=xs.length/\ks≠[]/\ks.length<=15)&&nh ks)| .jg ks xs,sc,e=>oP xs sc (cL e)&&(decide (ks.length=xs.length/\ks≠[]/\ks.length<=15)&&nh ks)| .xj bc,_,_=>decide (bc≠[]/\bc.length<=1000)&&(nh (bc.map (·.1))&&bc.all λp=>fc p.1&&ui p.2)| .yq xs,sc,e=>oP xs sc (cL e)&&decide (xs.length=4)| .aK x y,sc,e=>d4 x sc (k0 e)&&d4 y sc (k1 e)| .dU x y z,sc,e=>d4 x sc (k0 e)&&(d4 y sc (get<|B6 (k1 e))&&d4 z sc (get<|Pb (k1 e)))| .vV x y,sc,e=>d4 x sc (k0 e)&&d4 y sc (get<|B6 (k1 e))| .call f xs,sc,e=>oP xs sc (cL e)&&(kT sc (oU<|k0 e)&&decide (c0 (oU<|k0 e)=ab f))| .bi b x,sc,e=>d4 x sc (hd<|cL e)&&(kT sc (qM b)&&(!wW b||kT sc yW))| .bw m x xs,sc,e=>d4 x sc (k0<|k0 e)&&(oP xs sc (cL e)&&(Rq m xs.length&&FP x))| .comp el ni tg k x co,sc,e=>d4 el (mA sc e) (k0 e)&&(d4 x sc (zj k (g8 e).iter)&&((ug co||d4 co (mA sc e) (hd (g8 e).ifs))&&
   (zk sc k tg&&(pM (mA sc e) tg&&(H6 sc (tp e) (rK e)&&decide (yp (mA sc e) tg=rK e/\ni=(rK e).length))))))
 | .tY x,sc,e=>d4 x sc (g8 e).iter&&(FP x&&(!(oU (k0 e)==("__debug__":aq))&&(H6 sc (tp e) [oU<|k0 e]&&(tp e).names.all λx=>decide (x.2≠.free))))
noncomputable def oP:af X->Sc->af aX->az
 |[],_,_=>ae|x::xs,sc,es=>d4 x sc (hd es)&&oP xs sc es.tail
end
end
def y5{α:Type}(s:fI)(f:aX->aX->af fI->af fI->az->α):α:=match s with
 | .Expr e _=>f e default [] [] ag| .Assign ts v _=>f v (hd ts) [] [] ag| .AugAssign t _ v _=>f v t [] [] ag| .If t b o _=>f t default b o ag| .While t b _ _=>f t default b [] ag| .For t it b _ _=>f it t b [] ag| .Return o _=>f (get o) default [] [] o.isNone|_=>f default default [] [] ag
def vE(s:fI):aX:=y5 s λe _ _ _ _=>e
def tE(s:fI):aX:=y5 s λ_ e _ _ _=>e
def bE(s:fI):af fI:=y5 s λ_ _ b _ _=>b
def oE(s:fI):af fI:=y5 s λ_ _ _ b _=>b
def zl(s:fI):az:=y5 s λ_ _ _ _ b=>b
noncomputable def LA(ss:af fI):fI:=match ss with
 |s::_=>s|[]=>default
mutual
noncomputable def Qm:ST->Sc->fI->fI
 | .expr x,sc,s=>.Expr (cI x sc<|vE s) s.pos| .aN i x,sc,s=>.Assign [.Name (nm sc i) (tE s).pos] (cI x sc<|vE s) s.pos| .nG is x,sc,s=>.Assign [gG sc (.aC is)<|tE s] (cI x sc<|vE s) s.pos| .lU i j x y,sc,s=>.Assign [.Tuple [.Name (nm sc i) (hd<|cL (tE s)).pos,.Name (nm sc j) (hd (cL<|tE s).tail).pos] (kd<|tE s) (tE s).pos] (.Tuple [cI x sc (hd<|cL (vE s)),cI y sc<|hd (cL<|vE s).tail] (kd<|vE s) (vE s).pos) s.pos| .nH o i x,sc,s=>.Assign [.Subscript (cI o sc<|k0 (tE s)) (cI i sc<|k1 (tE s)) (tE s).pos] (cI x sc<|vE s) s.pos| .xp o i x,sc,s=>.AugAssign (.Subscript (cI o sc<|k0 (tE s)) (cI i sc<|k1 (tE s)) (tE s).pos) .Add (cI x sc<|vE s) s.pos| .ite x a b,sc,s=>.If (cI x sc<|vE s) (o5 a sc<|bE s) (o5 b sc<|oE s) s.pos| .cM x a,sc,s=>.While (cI x sc<|vE s) (o5 a sc<|bE s) [] s.pos| .for tg k x a,sc,s=>.For (gG sc tg<|tE s) (k9 k (vE s)<|cI x sc) (o5 a sc<|bE s) [] s.pos| .ret x,sc,s=>.Return (match zl s with|true=>aw|false=>ab<|cI x sc (vE s)) s.pos| .brk,_,s=>.Break s.pos| .cont,_,s=>.Continue s.pos| .m8,_,s=>s
noncomputable def o5:af ST->Sc->af fI->af fI
 |[],_,_=>[]
 |t::ts,sc,ss=>Qm t sc (LA ss)::o5 ts sc ss.tail
end
section
variable(c0:aq->aD ai)
def BV(x:X):az:=y4 x λ_ b _ _ _=>b
def M7(x:X):az:=y4 x λ_ _ b _ _=>b
def FV(x:X):az:=y4 x λ_ _ _ b _=>b
mutual
noncomputable def MZ:ST->Sc->fI->az
 | .expr x,sc,s=>d4 c0 x sc (vE s)&&BV x| .aN i x,sc,s=>d4 c0 x sc (vE s)&&(iK sc i&&M7 x)| .nG is x,sc,s=>d4 c0 x sc (vE s)&&(pM sc (.aC is)&&FV x)| .lU i j x y,sc,s=>d4 c0 x sc (hd<|cL (vE s))&&(d4 c0 y sc (hd (cL<|vE s).tail)&&(iK sc i&&(iK sc j&&(decide (nm sc i≠nm sc j)&&([cI x sc (hd<|cL (vE s)),cI y sc<|hd (cL<|vE s).tail].all (IX 8)==ag)))))| .nH o i x,sc,s=>d4 c0 o sc (k0<|tE s)&&(d4 c0 i sc (k1<|tE s)&&d4 c0 x sc (vE s))| .xp o i x,sc,s=>d4 c0 o sc (k0<|tE s)&&(d4 c0 i sc (k1<|tE s)&&d4 c0 x sc (vE s))| .ite x a b,sc,s=>d4 c0 x sc (vE s)&&(rL a sc (bE s)&&rL b sc (oE s))| .cM x a,sc,s=>d4 c0 x sc (vE s)&&rL a sc (bE s)| .for tg k x a,sc,s=>d4 c0 x sc (zj k<|vE s)&&(rL a sc (bE s)&&(zk sc k tg&&pM sc tg))| .ret x,sc,s=>match zl s with
  |true=>r9 x|false=>d4 c0 x sc (vE s)
 | .brk,_,_=>ae| .cont,_,_=>ae| .m8,_,_=>ae
noncomputable def rL:af ST->Sc->af fI->az
 |[],_,_=>ae|t::ts,sc,ss=>MZ t sc (LA ss)&&rL ts sc ss.tail
end
end
noncomputable def mH(scope:gR):af (aq×eK):=scope.names.filter λx=>decide (x.2=.local)||decide (x.2=.cell)
end
inductive a7{α β:Type}(R:α->β->Prop):af α->af β->Prop
 |nil:a7 R [] []
 |cons {x:α} {y:β} {xs:af α} {ys:af β}:R x y->a7 R xs ys->a7 R (x::xs) (y::ys)
section
variable{α β:Type}{R S:α->β->Prop}
theorem a7.aU(h:∀x y,R x y->S x y){xs:af α}{ys:af β}(a:a7 R xs ys):a7 S xs ys:=by
 induction a with
 |nil=>exact .nil|cons h1 _ ih=>exact .cons (h _ _ h1) ih
theorem a7.length{xs:af α}{ys:af β}(a:a7 R xs ys):xs.length=ys.length:=by
 induction a with
 |nil=>rfl|cons _ _ ih=>exact ay Av ih
theorem a7.append{xs xS:af α}{ys JD:af β}(a:a7 R xs ys)(b:a7 R xS JD):a7 R (xs++xS) (ys++JD):=by
 induction a with
 |nil=>exact b|cons h1 _ ih=>exact .cons h1 ih
theorem a7.ada{xs:af α}{ys:af β}(a:a7 R xs ys):a7 (λy x=>R x y) ys xs:=by
 induction a with
 |nil=>exact .nil|cons h1 _ ih=>exact .cons h1 ih
theorem a7.get{xs:af α}{ys:af β}(a:a7 R xs ys):∀{i:ai}{y:β},ys[i]?=ab y->∃x,xs[i]?=ab x/\R x y:=by
 induction a with
 |nil=>exactλe=>aiU rfl (heq_of_eq<|show(aw:aD β)=ab _ from e)|cons h1 _ ih=>exactλ{i y}=>i.casesOn (λe=>⟨_,rfl,cq e▸h1⟩) λi e=>ih e
theorem a7.PB{xs:af α}{ys:af β}(a:a7 R xs ys){i:ai}{x:α}(e:xs[i]?=ab x):∃y,ys[i]?=ab y/\R x y:=a.ada.get e
theorem a7.drop{xs:af α}{ys:af β}(a:a7 R xs ys):∀n:ai,a7 R (xs.drop n) (ys.drop n):=by
 induction a with
 |nil=>exactλn=>n.casesOn .nil λ_=>.nil|cons h1 h2 ih=>exactλn=>n.casesOn (.cons h1 h2) ih
theorem a7.take{xs:af α}{ys:af β}(a:a7 R xs ys):∀n:ai,a7 R (xs.take n) (ys.take n):=by
 induction a with
 |nil=>exactλn=>n.casesOn .nil λ_=>.nil|cons h1 h2 ih=>exactλn=>n.casesOn .nil λn=>.cons h1 (ih n)
theorem a7.set{xs:af α}{ys:af β}(a:a7 R xs ys){x:α}{y:β}(h:R x y):∀n:ai,a7 R (xs.set n x) (ys.set n y):=by
 induction a with
 |nil=>exactλn=>.nil|cons h1 h2 ih=>exactλn=>n.casesOn (.cons h h2) λn=>.cons h1 (ih n)
theorem a7.eraseIdx{xs:af α}{ys:af β}(a:a7 R xs ys):∀n:ai,a7 R (xs.eraseIdx n) (ys.eraseIdx n):=by
 induction a with
 |nil=>exactλn=>.nil|cons h1 h2 ih=>exactλn=>n.casesOn h2 λn=>.cons h1 (ih n)
theorem a7.replicate{x:α}{y:β}(h:R x y)(n:ai):a7 R (eW n x) (eW n y):=by
 induction n with
 |zero=>exact .nil|succ n ih=>exact .cons h ih
theorem a7.vU{xs:af α}{ys:af β}(a:a7 R xs ys){x:α}{y:β}(h:R x y):a7 R (xs++[x]) (ys++[y]):=a.append (.cons h .nil)
theorem a7.zip{xs:af α}{ys:af β}(a:a7 R xs ys){γ:Type}:∀ks:af γ,a7 (λp q=>p.1=q.1/\R p.2 q.2) (ks.zip xs) (ks.zip ys):=by
 induction a with
 |nil=>exactλks=>ks.casesOn .nil λ_ _=>.nil|cons h1 _ ih=>exactλks=>ks.casesOn .nil λk ks=>.cons ⟨rfl,h1⟩ (ih ks)
theorem a7.map{γ δ:Type}{T:γ->δ->Prop}(f:α->γ)(g:β->δ)(h:∀x y,R x y->T (f x) (g y)){xs:af α}{ys:af β}(a:a7 R xs ys):a7 T (xs.map f) (ys.map g):=by
 induction a with
 |nil=>exact .nil|cons h1 _ ih=>exact .cons (h _ _ h1) ih
end
theorem gK{α:Type}{x:aD α}{o:α}{P:Prop}(a:x=ab o)(b:x=aw):P:=aiU rfl (heq_of_eq<|a.symm.trans b)
noncomputable abbrev Le(g h:aI):Prop:=∀b o,g.get? b=ab o->h.get? b=ab o
theorem Le.refl(g:aI):Le g g:=λ_ _ e=>e
theorem Le.trans{g h k:aI}(a:Le g h)(b:Le h k):Le g k:=λx o e=>b x o (a x o e)
theorem Le.none{g h:aI}(a:Le g h){b:aP}(e:h.get? b=aw):g.get? b=aw:=xJ.mpr λo q=>gK (a b o q) e
open Classical in
noncomputable def only(P:aP->Prop)(h:aI):aI:=
 {objs:=h.objs.mapIdx λi o=>if P i then o else {o with data:=.freed},life:=h.life}
open Classical in
theorem HJ(P:aP->Prop)(h:aI)(a:aP):(only P h).get? a=if P a then h.get? a else aw:=by
 delta aiz
 rw[show(only P h).objs[a]?=(h.objs[a]?).map λo=>if P a then o else {o with data:=.freed} from Array.getElem?_mapIdx]
 by_cases hp:P a
 ·rw[show(λo:pj=>if P a then o else {o with data:=.freed})=id from funext λo=>a9 hp,a9 hp,Option.map_id_fun];rfl
 ·rw[show(λo:pj=>if P a then o else {o with data:=.freed})=_ from funext λo=>br hp,br hp]
  cases h.objs[a]?<;>rfl
def iG(g h:aI)(L:af aP):aI:=only (λb=>(g.get? b).isSome=ae\/b∈L) h
theorem MU{P:aP->Prop}{h:aI}{a:aP}{o:pj}(e:(only P h).get? a=ab o):P a/\h.get? a=ab o:=
 pE (dec:=akY<|P a) (λp=>⟨p,(a9 p).symm.trans<|(HJ P h a).symm.trans e⟩) λp=>gK ((HJ P h a).symm.trans e) (br p)
theorem MW{P:aP->Prop}{h:aI}{a:aP}(p:P a):(only P h).get? a=h.get? a:=(HJ P h a).trans (a9 p)
theorem A5{g h:aI}{L:af aP}:Le (iG g h L) h:=λb o e=>(MU e).2
theorem my{g h:aI}{L:af aP}(l:Le g h):Le g (iG g h L):=λb o e=>(MW<|.inl (e▸rfl)).trans (l b o e)
theorem vI{g h:aI}{L:af aP}{b:aP}{o:pj}(e:(iG g h L).get? b=ab o)(hn:g.get? b=aw):b∈L:=(MU e).1.elim (λq=>by rw[hn] at q;cases q) id
theorem yl{g h:aI}{L:af aP}{b:aP}(hb:b∈L):(iG g h L).get? b=h.get? b:=MW (.inr hb)
structure Step(g h:aI)(F:af aP)(g' h':aI):Prop where
 gg:Le g g'
 gh:Le g' h'
 frame:∀b o,h.get? b=ab o->b∉F->h'.get? b=ab o
 new:∀b o,g'.get? b=ab o->g.get? b=aw->h.get? b=aw\/b∈F
 f7:∀b,h'.get? b=aw->h.get? b=aw
theorem Step.refl{g h:aI}(F:af aP)(l:Le g h):Step g h F g h:=⟨.refl _,l,λ_ _ e _=>e,λb _ e n=>gK e n,λ_ e=>e⟩
theorem Step.trans{g h dw h₁ gM cH:aI}{F sC:af aP}(a:Step g h F dw h₁)(b:Step dw h₁ sC gM cH)(hF:∀x∈sC,x∈F\/h.get? x=aw):Step g h F gM cH where
 gg:=a.gg.trans b.gg
 gh:=b.gh
 frame:=λx o e hx=>b.frame x o (a.frame x o e hx) λq=>(hF x q).elim hx (gK e)
 new:=λx o e n=>by
  cases q:dw.get? x with
  |some o'=>exact a.new x o' q n|none=>exact(b.new x o e q).elim (λr=>.inl<|a.f7 x r) λr=>(hF x r).symm
 f7:=λx e=>a.f7 x (b.f7 x e)
theorem Step.aU{g h g' h':aI}{F F':af aP}(a:Step g h F g' h')(hF:∀x∈F,x∈F'\/h.get? x=aw):Step g h F' g' h':=
 ⟨a.gg,a.gh,λx o e hx=>a.frame x o e λq=>(hF x q).elim hx (gK e),λx o e n=>(a.new x o e n).elim .inl λq=>(hF x q).symm,a.f7⟩
theorem Step.ck{g h g' h':aI}{F:af aP}(a:Step g h F g' h'){b:aP}(hg:g.get? b=aw)(hh:(h.get? b).isSome=ae)(hF:b∉F):g'.get? b=aw:=
 xJ.mpr λo q=>(a.new b o q hg).elim (λr=>by rw[r] at hh;cases hh) hF
theorem Step.fm{g h h':aI}(F:af aP)(l:Le g h)(k:Le h h'):Step g h F g h':=
 ⟨.refl _,l.trans k,λ_ _ e _=>k _ _ e,λb _ e n=>gK e n,λ_ e=>k.none e⟩
noncomputable def Rd(g:aI)(v:aB)(d:V):Prop:=(∃as,Reads g v d as)/\d.canLay0=ae
theorem Rd.aU{g g':aI}(l:Le g g'){v:aB}{d:V}(r:Rd g v d):Rd g' v d:=⟨r.1.imp λ_=>akW l,r.2⟩
theorem Rd.o6{g g':aI}(l:Le g g'){vs:af aB}{ds:af V}(r:a7 (Rd g) vs ds):a7 (Rd g') vs ds:=r.aU λ_ _ x=>x.aU l
theorem It{g:aI}{ds:af V}:∀{vs:af aB}{as:af aP},ReadsAll g vs ds as->DF ds=ae->a7 (Rd g) vs ds:=by
 induction ds with
 |nil=>exactλh _=>(akC h).1▸.nil|cons d ds ih=>exactλh c=>(akD h).elim λv q=>q.elim λeB q=>q.elim λa q=>q.elim λb q=>q.1▸.cons ⟨⟨_,q.2.2.1⟩,(dc.mp c).1⟩ (ih q.2.2.2 (dc.mp c).2)
theorem Bz{g:aI}{vs:af aB}{ds:af V}(a:a7 (Rd g) vs ds):(∃as,ReadsAll g vs ds as)/\DF ds=ae:=by
 induction a with
 |nil=>exact⟨⟨_,.nil⟩,rfl⟩|cons h1 _ ih=>exact⟨h1.1.elim λas r=>ih.1.elim λbs rs=>⟨_,.cons r rs⟩,dc.mpr ⟨h1.2,ih.2⟩⟩
theorem Rd.none{g:aI}:Rd g .none .none:=⟨⟨_,.none⟩,rfl⟩
theorem Rd.bool{g:aI}(b:az):Rd g (.bool b) (.bool b):=⟨⟨_,.bool b⟩,rfl⟩
theorem Rd.int{g:aI}(i:aH)(t:mR):Rd g (.int i t) (.int i):=⟨⟨_,.int i t⟩,rfl⟩
theorem Rd.str{g:aI}{s:aq}(t:mR)(h:fc s=ae):Rd g (.str s t) (.str s):=⟨⟨_,.str s t⟩,h⟩
theorem Rd.tuple{g:aI}{a:aP}{items:cT aB}{ds:af V}(h:g.IsTuple a items)(r:a7 (Rd g) items.toList ds):Rd g (.ref a) (.tuple ds):=
 ⟨h.elim λo h=>h.2.2.elim λn h3=>(Bz r).1.elim λas r=>⟨_,.tuple h.1 h.2.1 h3 r⟩,(Bz r).2⟩
theorem Rd.list{g:aI}{a:aP}{items:cT aB}{ds:af V}(h:g.IsList a items)(r:a7 (Rd g) items.toList ds):Rd g (.ref a) (.list ds):=
 ⟨h.elim λo h=>h.2.2.elim λn h3=>(Bz r).1.elim λas r=>⟨_,.list h.1 h.2.1 h3 r⟩,(Bz r).2⟩
theorem Rd.wJ{g:aI}{v:aB}(r:Rd g v .none):v=.none:=r.1.elim λ_ r=>(aky r).1
theorem Rd.uM{g:aI}{v:aB}{b:az}(r:Rd g v (.bool b)):v=.bool b:=r.1.elim λ_ r=>(akB r).1
theorem Rd.wY{g:aI}{v:aB}{i:aH}(r:Rd g v (.int i)):∃t,v=.int i t:=r.1.elim λ_ r=>(akA r).imp λ_ q=>q.1
theorem Rd.yr{g:aI}{v:aB}{s:aq}(r:Rd g v (.str s)):∃t,v=.str s t:=r.1.elim λ_ r=>(akx r).imp λ_ q=>q.1
theorem Rd.strOk{g:aI}{v:aB}{s:aq}(r:Rd g v (.str s)):fc s=ae:=r.2
theorem Rd.kG{g:aI}{v:aB}{ds:af V}(r:Rd g v (.tuple ds)):∃a items,v=.ref a/\g.IsTuple a items/\a7 (Rd g) items.toList ds:=
 r.1.elim λ_ q=>(akw q).elim λa q=>q.elim λo q=>q.elim λvs q=>q.elim λn q=>⟨a,vs,q.1,⟨o,q.2.1,q.2.2.1,n,q.2.2.2.1⟩,It q.2.2.2.2 r.2⟩
theorem Rd.y6{g:aI}{v:aB}{ds:af V}(r:Rd g v (.list ds)):∃a items,v=.ref a/\g.IsList a items/\a7 (Rd g) items.toList ds:=
 r.1.elim λ_ q=>(akz q).elim λa q=>q.elim λo q=>q.elim λvs q=>q.elim λn q=>q.elim λbs q=>⟨a,vs,q.1,⟨o,q.2.1,q.2.2.1,n,q.2.2.2.1⟩,It q.2.2.2.2.1 r.2⟩
theorem Rd.H2{g:aI}{v:aB}{bc:af (V×V)}(r:Rd g v (.dict bc)):False:=q6 r.2
theorem IsList.le{g h:aI}(l:Le g h){a:aP}{items:cT aB}(x:g.IsList a items):h.IsList a items:=x.imp λ_=>.imp (l _ _) id
theorem IsTuple.le{g h:aI}(l:Le g h){a:aP}{items:cT aB}(x:g.IsTuple a items):h.IsTuple a items:=x.imp λ_=>.imp (l _ _) id
noncomputable abbrev Ad:=aP×aP×aP
noncomputable def foot(a:Ad):bP->af aP
 | .cA=>[]
 | .ah _| .fb _| .jg _=>[a.1]
 | .st ..=>[a.1,a.2.1,a.2.2]
noncomputable def bp:Rs->af Ad->af aP
 |r::rs,a::as=>foot a r++bp rs as|_,_=>[]
section
variable(prog:cC)(w:dv)
def fx(g h:aI)(a:aP)(xs:af V):Prop:=∃items n,h.get? a=ab {cls:=.type "list",data:=.seq items n}/\a7 (Rd g) items.toList xs
def om(g h:aI)(a:aP)(bc:af (aq×V)):Prop:=
 ∃kv:af (aq×aB),h.DictOf (iT prog w) a kv/\a7 (λp q=>p.1=q.1/\Rd g p.2 q.2) kv bc
def xy(g h:aI)(a:aP)(bc:af (aH×V)):Prop:=
 ∃kv:af (aH×aB),h.DictOf (IU prog w) a kv/\a7 (λp q=>p.1=q.1/\Rd g p.2 q.2) kv bc
def La(a:Ad)(cW b8:aH)(fL fA:mR):af (aq×aB):=[(ze,.ref a.2.1),(zg,.ref a.2.2),(rW,.int cW fL),(zf,.int b8 fA)]
def ip(g h:aI)(a:Ad):bP->Prop
 | .cA=>True| .ah xs=>fx g h a.1 xs| .fb bc=>om prog w g h a.1 bc| .jg bc=>xy prog w g h a.1 bc| .st vs l cW b8=>(∃fL fA,h.DictOf (iT prog w) a.1<|La a cW b8 fL fA)/\om prog w g h a.2.1 vs/\fx g h a.2.2 l
variable{prog w}
theorem fx.step{g h g' h':aI}{a:aP}{xs:af V}(x:fx g h a xs)(gg:Le g g')(f:∀o,h.get? a=ab o->h'.get? a=ab o):fx g' h' a xs:=
 x.imp λ_=>.imp λ_=>.imp (f _) (Rd.o6 gg)
theorem DictOf.at{K:Type}[DecidableEq K]{knd:xG prog w K}{h h':aI}{a:aP}{bc:af (K×aB)}(x:h.DictOf knd a bc)(f:∀o,h.get? a=ab o->h'.get? a=ab o):h'.DictOf knd a bc:=
 x.imp λ_=>.imp λ_=>.imp λ_=>.imp (f _) id
theorem om.step{g h g' h':aI}{a:aP}{bc:af (aq×V)}(x:om prog w g h a bc)(gg:Le g g')(f:∀o,h.get? a=ab o->h'.get? a=ab o):om prog w g' h' a bc:=
 x.imp λ_=>.imp (DictOf.at · f) (.aU λ_ _=>.imp id<|.aU gg)
theorem xy.step{g h g' h':aI}{a:aP}{bc:af (aH×V)}(x:xy prog w g h a bc)(gg:Le g g')(f:∀o,h.get? a=ab o->h'.get? a=ab o):xy prog w g' h' a bc:=
 x.imp λ_=>.imp (DictOf.at · f) (.aU λ_ _=>.imp id<|.aU gg)
theorem ip.step{g h g' h':aI}{a:Ad}{r:bP}(x:ip prog w g h a r)(gg:Le g g')(f:∀b∈foot a r,∀o,h.get? b=ab o->h'.get? b=ab o):ip prog w g' h' a r:=by
 cases r with
 |cA=>trivial|ah xs=>exact fx.step x gg (f _ (.head _))|fb bc=>exact om.step x gg (f _ (.head _))|jg bc=>exact xy.step x gg (f _ (.head _))|st vs l t s=>exact⟨x.1.imp λ_=>.imp λ_ h=>DictOf.at h (f _ (.head _)),x.2.1.step gg (f _ (.tail _ (.head _))),x.2.2.step gg<|f _ (.tail _ (.tail _ (.head _)))⟩
theorem fx.some{g h:aI}{a:aP}{xs:af V}(x:fx g h a xs):(h.get? a).isSome=ae:=x.elim λ_ x=>x.elim λ_ x=>ay sM x.1
theorem DictOf.some{K:Type}[DecidableEq K]{knd:xG prog w K}{h:aI}{a:aP}{bc:af (K×aB)}(x:h.DictOf knd a bc):(h.get? a).isSome=ae:=x.elim λ_ x=>x.elim λ_ x=>x.elim λ_ x=>ay sM x.1
theorem ip.some{g h:aI}{a:Ad}{r:bP}(x:ip prog w g h a r):∀b∈foot a r,(h.get? b).isSome=ae:=by
 intro b hb
 cases r with
 |cA=>exact(gA hb).elim|ah xs=>exact cU.mp hb▸fx.some x|fb bc=>exact x.elim λ_ e=>cU.mp hb▸DictOf.some e.1|jg bc=>exact x.elim λ_ e=>cU.mp hb▸DictOf.some e.1|st vs l t s=>exact(dX.mp hb).elim (λe=>x.1.elim λ_ q=>q.elim λ_ q=>e▸DictOf.some q) λhb=>(dX.mp hb).elim (λe=>x.2.1.elim λ_ q=>e▸DictOf.some q.1) λhb=>cU.mp hb▸x.2.2.some
variable(prog w)
structure ca(g h:aI)(rs:Rs)(as:af Ad):Prop where
 le:Le g h
 len:as.length=rs.length
 root:∀(i:ai)(r:bP)(a:Ad),rs[i]?=ab r->as[i]?=ab a->ip prog w g h a r
 nodup:(bp rs as).Nodup
 ck:∀b∈bp rs as,g.get? b=aw/\b≠jl
variable{prog w}
theorem aaB{b:aP}{rs:Rs}:∀{as:af Ad},b∈bp rs as->∃(i:ai)(r:bP)(a:Ad),rs[i]?=ab r/\as[i]?=ab a/\b∈foot a r:=by
 induction rs with
 |nil=>exactλh=>(gA h).elim|cons r rs ih=>
  intro as h
  cases as with
  |nil=>exact(gA h).elim|cons a as=>exact(iX.mp h).elim (λh=>⟨0,r,a,rfl,rfl,h⟩) λh=>(ih h).elim λi q=>⟨i+1,q⟩
def z7(rs:Rs)(as:af Ad)(i:ai)(a:Ad)(r:bP)(R:af aP):Prop:=(bp rs as).Perm (foot a r++R)/\∀r',(bp (rs.set i r') as).Perm (foot a r'++R)
theorem uD{rs:Rs}:∀{as:af Ad}{i:ai}{r:bP}{a:Ad},rs[i]?=ab r->as[i]?=ab a->∃R,z7 rs as i a r R:=by
 induction rs with
 |nil=>exactλh _=>gK h rfl|cons E6 rs ih=>
  intro as i r a h1 h2
  cases as with
  |nil=>exact gK h2 rfl|cons agO as=>
   cases i with
   |zero=>exact cq h1▸cq h2▸⟨bp rs as,.refl _,λ_=>.refl _⟩|succ i=>exact(ih h1 h2).elim λR q=>⟨foot agO E6++R,(q.1.append_left _).trans (ajg ..),λr'=>((q.2 r').append_left _).trans (ajg ..)⟩
section
variable{rs:Rs}{as:af Ad}{i j:ai}{r r' q:bP}{a a':Ad}{b:aP}{R:af aP}
theorem z7.nodup(x:z7 rs as i a r R)(hd:(bp rs as).Nodup):(foot a r).Nodup/\R.Nodup/\∀x∈foot a r,∀y∈R,x≠y:=ow.mp (x.1.nodup_iff.mp hd)
theorem z7.mem(x:z7 rs as i a r R)(h:b∈R):b∈bp rs as:=x.1.mem_iff.mpr (u6 _ h)
theorem lQ(h1:rs[i]?=ab r)(h2:as[i]?=ab a)(h3:b∈foot a r):b∈bp rs as:=(uD h1 h2).elim λR q=>q.1.mem_iff.mpr (pB _ h3)
theorem CM(h1:rs[i]?=ab r)(h2:as[i]?=ab a)(hb:b∈bp (rs.set i r') as):b∈bp rs as\/b∈foot a r':=
 (uD h1 h2).elim λR q=>(iX.mp<|(q.2 r').mem_iff.mp hb).elim .inr λm=>.inl (q.mem m)
theorem PW(h1:rs[i]?=ab r)(h2:as[i]?=ab a)(hd:(bp rs as).Nodup)(hb:b∈bp (rs.set i r') as):b∈foot a r'\/b∈bp rs as/\b∉foot a r:=
 (uD h1 h2).elim λR q=>(iX.mp<|(q.2 r').mem_iff.mp hb).imp id λm=>⟨q.mem m,λk=>(q.nodup hd).2.2 b k b m rfl⟩
theorem E0{P:Prop}(h1:rs[i]?=ab r)(e:(rs.set i r')[j]?=ab q)(k:i=j->r'=q->P)(k':i≠j->rs[j]?=ab q->P):P:=
 pE (λz:i=j=>k z<|cq ((AB (l8.mp h1).1).symm.trans<|(ay ((rs.set i r')[·]?) z).trans e)) λz=>k' z ((xO z).symm.trans e)
theorem LM(h2:as[i]?=ab a)(z:i=j)(e:as[j]?=ab a'):a=a':=cq (h2.symm.trans<|(ay (as[·]?) z).trans e)
end
theorem ca.alloc{g h:aI}{rs:Rs}{as:af Ad}(x:ca prog w g h rs as){b:aP}(hb:b∈bp rs as):(h.get? b).isSome=ae:=by
 exact(aaB hb).elim λi q=>q.elim λr q=>q.elim λa q=>(x.root i r a q.1 q.2.1).some b q.2.2
theorem ca.step{g h g' h':aI}{rs:Rs}{as:af Ad}{F:af aP}(x:ca prog w g h rs as)(st:Step g h F g' h')(hF:∀b∈bp rs as,b∉F):ca prog w g' h' rs as where
 le:=st.gh
 len:=x.len
 root:=λi r a h1 h2=>(x.root i r a h1 h2).step st.gg λb hb o e=>st.frame b o e (hF b<|lQ h1 h2 hb)
 nodup:=x.nodup
 ck:=λb hb=>⟨st.ck (x.ck b hb).1 (x.alloc hb) (hF b hb),(x.ck b hb).2⟩
section
variable{rs:Rs}{as:af Ad}{i j:ai}{r r':bP}{a a':Ad}{b:aP}
theorem PU(h1:rs[i]?=ab r)(h2:as[i]?=ab a)(hs:∀b∈foot a r',b∈foot a r):∀b∈bp (rs.set i r') as,b∈bp rs as:=λb hb=>(CM h1 h2 hb).elim id λk=>lQ h1 h2 (hs b k)
theorem PV(h1:rs[i]?=ab r)(h2:as[i]?=ab a)(hn:(foot a r').Nodup)(hs:∀b∈foot a r',b∈foot a r)(hd:(bp rs as).Nodup):(bp (rs.set i r') as).Nodup:=
 (uD h1 h2).elim λR q=>(q.2 r').nodup_iff.mpr (ow.mpr ⟨hn,(q.nodup hd).2.1,λx hx=>(q.nodup hd).2.2 x<|hs x hx⟩)
theorem ado(hd:(bp rs as).Nodup)(h1:rs[i]?=ab r)(h2:as[i]?=ab a)(h3:rs[j]?=ab r')(h4:as[j]?=ab a')(hb:b∈foot a r)(hb':b∈foot a' r'):i=j:=
 Jw λn=>(uD h1 h2).elim λR q=>(q.nodup hd).2.2 b hb b ((q.2 .cA).mem_iff.mp<|lQ ((xO n).trans h3) h4 hb') rfl
theorem CI(hd:(bp rs as).Nodup)(h1:rs[i]?=ab r)(h2:as[i]?=ab a):(foot a r).Nodup:=(uD h1 h2).elim λR q=>(q.nodup hd).1
end
theorem ca.set{g h g' h':aI}{rs:Rs}{as:af Ad}{i:ai}{r r':bP}{a:Ad}(x:ca prog w g h rs as)(h1:rs[i]?=ab r)(h2:as[i]?=ab a)(st:Step g h (foot a r) g' h')
  (hs:∀b∈foot a r',b∈foot a r)(hn:(foot a r').Nodup)(hr:ip prog w g' h' a r')(Ct:∀b∈foot a r',g'.get? b=aw):ca prog w g' h' (rs.set i r') as where
 le:=st.gh
 len:=by rw[pC];exact x.len
 root:=λj q c e1 e2=>E0 h1 e1 (λz e=>e▸LM h2 z e2▸hr) λz e1=>(x.root j q c e1 e2).step st.gg λb hb o e=>st.frame b o e λk=>z (ado x.nodup h1 h2 e1 e2 k hb)
 nodup:=PV h1 h2 hn hs x.nodup
 ck:=λb hb=>⟨(PW h1 h2 x.nodup hb).elim (Ct b) λk=>st.ck (x.ck b k.1).1 (x.alloc k.1) k.2,(x.ck b<|PU h1 h2 hs b hb).2⟩
def MR(g:aI)(as:af Ad):MV->aB->Prop
 | .val d,v=>Rd g v d| .ref i,v=>∃a,as[i]?=ab a/\v=.ref a.1| .vars i,v=>∃a,as[i]?=ab a/\v=.ref a.2.1| .bM i,v=>∃a,as[i]?=ab a/\v=.ref a.2.2| .own _,_=>False
theorem MR.aU{g g':aI}(l:Le g g'){as:af Ad}{m:MV}{v:aB}(x:MR g as m v):MR g' as m v:=by
 cases m with
 |val d=>exact Rd.aU l x|own r=>exact x|ref i=>exact x|vars i=>exact x|bM i=>exact x
theorem MR.more{g:aI}{as bs:af Ad}{m:MV}{v:aB}(x:MR g as m v):MR g (as++bs) m v:=
 have key:∀(i:ai)(a:Ad),as[i]?=ab a->(as++bs)[i]?=ab a:=λi a e=>(u9 (l8.mp e).1).trans e
 match m with
 | .val d=>x| .own r=>x| .ref i=>x.imp λ_=>.imp (key _ _) id| .vars i=>x.imp λ_=>.imp (key _ _) id| .bM i=>x.imp λ_=>.imp (key _ _) id
variable(prog w)
def xw(g h h₀ h₁:aI)(r:bP)(v:aB):Prop:=
 ∃a:Ad,v=.ref a.1/\ip prog w g h a r/\(foot a r).Nodup/\∀b∈foot a r,g.get? b=aw/\h₀.get? b=aw/\(h₁.get? b).isSome=ae/\b≠jl
def TR(g h h₀ h₁:aI)(as:af Ad):MV->aB->Prop
 | .own r,v=>r≠.cA/\xw prog w g h h₀ h₁ r v|m,v=>MR g as m v
variable{prog w}
theorem TR.wH{g h h₀ h₁:aI}{as:af Ad}{m:MV}{v:aB}(x:MR g as m v):TR prog w g h h₀ h₁ as m v:=by
 cases m with
 |own r=>exact x.elim|_=>exact x
theorem TR.by{C:Prop}{g h h₀ h₁:aI}{as:af Ad}{m:MV}{v:aB}(x:TR prog w g h h₀ h₁ as m v)(ho:∀r,m=.own r->r≠.cA->xw prog w g h h₀ h₁ r v->C)(hn:MR g as m v->C):C:=by
 cases m with
 |own r=>exact ho r rfl x.1 x.2|_=>exact hn x
theorem r8{h₀ h₁:aI}(hd:∀b,h₁.get? b=aw->h₀.get? b=aw){b:aP}(e:(h₀.get? b).isSome=ae):(h₁.get? b).isSome=ae:=Jw λn=>Option.isSome_iff_ne_none.mp e (hd b<|Option.not_isSome_iff_eq_none.mp n)
theorem xw.to{g h h₀ h₁ g' h' OY Cs:aI}{r:bP}{v:aB}(x:xw prog w g h h₀ h₁ r v)(k:∀a:Ad,ip prog w g h a r->(∀b∈foot a r,g.get? b=aw/\h₀.get? b=aw/\(h₁.get? b).isSome=ae/\b≠jl)->
  ip prog w g' h' a r/\∀b∈foot a r,g'.get? b=aw/\OY.get? b=aw/\(Cs.get? b).isSome=ae/\b≠jl):xw prog w g' h' OY Cs r v:=
 x.imp λa q=>⟨q.1,(k a q.2.1 q.2.2.2).1,q.2.2.1,(k a q.2.1 q.2.2.2).2⟩
theorem qg{x:aD pj}{P:Prop}(a:x.isSome=ae)(b:x=aw):P:=by rw[b] at a;cases a
theorem TR.old{g h h₀ h₁ eU k₁:aI}{as:af Ad}{m:MV}{v:aB}(x:TR prog w g h h₁ k₁ as m v)(hd:∀b,h₁.get? b=aw->h₀.get? b=aw)(hk:∀b,eU.get? b=aw->k₁.get? b=aw):TR prog w g h h₀ eU as m v:=
 x.by (λr e n o=>e▸⟨n,o.to λa h1 h3=>⟨h1,λb hb=>⟨(h3 b hb).1,hd b (h3 b hb).2.1,r8 hk (h3 b hb).2.2.1,(h3 b hb).2.2.2⟩⟩⟩) .wH
theorem TR.step{g h h₀ h₁ g' h':aI}{F:af aP}{as:af Ad}{m:MV}{v:aB}(x:TR prog w g h h₀ h₁ as m v)(st:Step g h F g' h')(hF:∀b∈F,(h₀.get? b).isSome=ae):TR prog w g' h' h₀ h₁ as m v:=
 x.by (λr e n o=>e▸⟨n,o.to λa h1 h3=>have nF:∀b∈foot a r,b∉F:=λb hb q=>qg (hF b q) (h3 b hb).2.1
  ⟨h1.step st.gg λb hb o e=>st.frame b o e (nF b hb),λb hb=>⟨st.ck (h3 b hb).1 (h1.some b hb) (nF b hb),(h3 b hb).2⟩⟩⟩) λx=>.wH (x.aU st.gg)
theorem TR.uA{g h h₀ h₁:aI}{L:af aP}{as:af Ad}{m:MV}{v:aB}(x:TR prog w g h h₀ h₁ as m v)(l:Le g h)(hL:∀b∈L,(h₀.get? b).isSome=ae\/h₁.get? b=aw):TR prog w (iG g h L) h h₀ h₁ as m v:=
 x.by (λr e n o=>e▸⟨n,o.to λa h1 h3=>⟨h1.step (my l) λ_ _ _ e=>e,λb hb=>⟨xJ.mpr λo q=>
  (hL b<|vI q (h3 b hb).1).elim (λr=>qg r (h3 b hb).2.1) (qg (h3 b hb).2.2.1),(h3 b hb).2⟩⟩⟩) λx=>.wH (x.aU<|my l)
structure lY(env:ff)(sc:Sc):Prop where
 kind:env.scope.kind=.function
 names:env.scope.names=sc.names
 gl:env.globals=Dx
 bl:env.builtins=Sw
theorem lY.kindOf{env:ff}{sc:Sc}(x:lY env sc)(n:aq):env.kindOf n=sc.names.lookup n:=by exact ay (Jp n) x.names
noncomputable def gF(env:ff):af aP:=env.locals::env.cells.map (·.2)
noncomputable def At(h:aI)(env:ff):eK->aq->aB->Prop
 | .local,x,v=>∃m,h.Ns env.locals m/\m x=ab v| .cell,x,v=>∃c,env.cells.lookup x=ab c/\h.IsCell c (ab v)|_,_,_=>False
structure gH(g h:aI)(env:ff)(sc:Sc)(vs:Vs)(as:af Ad)(F:af aP):Prop where
 ns:∃m,h.Ns env.locals m
 mK:∀p∈env.cells,∃v,h.IsCell p.2 v
 ck:∀b∈gF env,g.get? b=aw/\b∉F
 apart:(gF env).Nodup
 has:∀x,sc.names.lookup x=ab .cell->(env.cells.lookup x).isSome=ae
 lG:∀(i:ai)(x:aq)(k:eK)(m:MV),sc.slots[i]?=ab (x,k)->sc.names.lookup x=ab k->vs[i]?=ab (ab m)->∃v,At h env k x v/\MR g as m v
theorem yZ{env:ff}{x:aq}{c:aP}(h:env.cells.lookup x=ab c):c∈gF env:=by
 exact iE _ (eE.mpr ⟨(x,c),mem_of_lookup h,rfl⟩)
theorem gH.alloc{g h:aI}{env:ff}{sc:Sc}{vs:Vs}{as:af Ad}{F:af aP}(x:gH g h env sc vs as F){b:aP}(hb:b∈gF env):(h.get? b).isSome=ae:=
 (dX.mp hb).elim (λe=>x.ns.elim λ_ q=>q.elim λ_ q=>q.elim λ_ q=>q.elim λ_ q=>e▸ay sM q.1) λhb=>(eE.mp hb).elim λp q=>q.2▸(x.mK p q.1).elim λ_ q=>q.elim λ_ q=>ay sM q.1
theorem At.step{h h':aI}{env:ff}{k:eK}{x:aq}{v:aB}(a:At h env k x v)(f:∀b∈gF env,∀o,h.get? b=ab o->h'.get? b=ab o):At h' env k x v:=by
 cases k with
 |«local»=>exact a.imp λ_=>.imp (λq=>q.imp λ_=>.imp λ_=>.imp λ_=>.imp (f _ (.head _) _) id) id|cell=>exact a.imp λ_ q=>⟨q.1,q.2.imp λ_=>.imp (f _ (yZ q.1) _) id⟩
 |_=>exact a.elim
theorem gH.step{g h g' h':aI}{env:ff}{sc:Sc}{vs:Vs}{as:af Ad}{F F':af aP}(x:gH g h env sc vs as F)(st:Step g h F g' h')(hF:∀b∈F',b∈F):gH g' h' env sc vs as F' where
 ns:=x.ns.imp λ_ q=>q.imp λ_=>.imp λ_=>.imp λ_=>.imp (λe=>st.frame _ _ e (x.ck _ (.head _)).2) id
 mK:=λp hp=>(x.mK p hp).imp λ_ q=>q.imp λ_=>.imp (λe=>st.frame _ _ e (x.ck _ (iE _ (eE.mpr ⟨p,hp,rfl⟩))).2) id
 ck:=λb hb=>⟨st.ck (x.ck b hb).1 (x.alloc hb) (x.ck b hb).2,λq=>(x.ck b hb).2<|hF b q⟩
 apart:=x.apart
 has:=x.has
 lG:=λi y k m h1 h2 h3=>(x.lG i y k m h1 h2 h3).imp λ_=>.imp (λa=>a.step λb hb o e=>st.frame b o e (x.ck b hb).2) (.aU st.gg)
structure Ok(A:fJ)(n:ai):Prop where
 hd:A.handled=aw
 gs:A.guards=ab []
 depth:A.depth+n<=900
 units:A.units+3*n<=9000
noncomputable def No:aB->aZ->Prop:=λ_ _=>False
variable(prog w)
def jV{α:Type}(g:aI)(s:aZ)(rs:Rs)(as:af Ad)(cj:Rs)(P:aI->aI->α->Prop):α->aZ->Prop:=λv s'=>
 ∃g' h' tk,s'={s with heap:=h',toks:=tk}/\Step g s.heap (bp rs as) g' h'/\ca prog w g' h' cj as/\(∀b∈bp cj as,b∈bp rs as)/\P g' h' v
variable{prog w}
theorem jV.eN{α:Type}{g:aI}{s:aZ}{rs:Rs}{as:af Ad}{P:aI->aI->α->Prop}{v:α}{tk:ai}(x:ca prog w g s.heap rs as)(p:P g s.heap v):jV prog w g s rs as rs P v {s with toks:=tk}:=
 ⟨g,s.heap,tk,rfl,.refl _ x.le,x,λ_ h=>h,p⟩
end
theorem cO{α:Type}{a:α}{P:Prop}(e:aw=ab a):P:=gK e rfl
theorem eC{c:Prop}[Decidable c]{α:Type}{a b:α}(e:(if c then ab a else aw)=ab b):c/\a=b:=
 pE (λh:c=>⟨h,cq<|(a9 h).symm.trans e⟩) λh=>gK e (br h)
theorem fi{α:Type}{n:ai}{a b:α}(e:sz n a=ab b):n<=100000/\a=b:=eC e
theorem bind.on{α β:Type}{x:aD α}{f:α->aD β}{b:β}{R:Prop}(e:x.bind f=ab b)(k:∀a,x=ab a->f a=ab b->R):R:=(SV.mp e).elim λa p=>k a p.1 p.2
theorem map.on{α β:Type}{x:aD α}{f:α->β}{b:β}{R:Prop}(e:x.map f=ab b)(k:∀a,x=ab a->f a=b->R):R:=(sJ.mp e).elim λa p=>k a p.1 p.2
theorem some.on{α:Type}{x:aD α}{R:Prop}(h:x.isSome=ae)(k:∀a,x=ab a->R):R:=(uY.mp h).elim k
theorem rm{m:MV}{d:V}(e:fz m=ab d):m=.val d:=by
 cases m with
 |val d'=>exact ay _ (cq e)|_=>exact cO e
theorem MN{m:MV}{r:bP}(e:FI m=ab r):m=.own r:=by
 cases m with
 |own d'=>exact ay _ (cq e)|_=>exact cO e
theorem qu{d:V}{i:aH}(e:ic d=ab i):d=.int i:=by
 cases d with
 |int j=>exact ay _ (cq e)|_=>exact cO e
theorem s5{d:V}{i:aq}(e:lE d=ab i):d=.str i:=by
 cases d with
 |str j=>exact ay _ (cq e)|_=>exact cO e
theorem afq{d:V}{i:az}(e:xo d=ab i):d=.bool i:=by
 cases d with
 |bool j=>exact ay _ (cq e)|_=>exact cO e
theorem Gi{d:V}{i:af V}(e:rR d=ab i):d=.list i:=by
 cases d with
 |list j=>exact ay _ (cq e)|_=>exact cO e
theorem UQ{d:V}{i:af V}(e:ED d=ab i):d=.tuple i:=by
 cases d with
 |tuple j=>exact ay _ (cq e)|_=>exact cO e
theorem B4{r:bP}{xs:af V}(e:mx r=ab xs):r=.ah xs:=by
 cases r with
 |ah ys=>exact ay _ (cq e)|_=>exact cO e
theorem VT{r:bP}{q:af (aq×V)×af V×aH×aH}(e:Bp r=ab q):r=.st q.1 q.2.1 q.2.2.1 q.2.2.2:=by
 cases r with
 |st vs l t s=>exact cq e▸rfl|_=>exact cO e
theorem K8{r:bP}{p:af (aq×V)×af V}(e:kK r=ab p):∃t s,r=.st p.1 p.2 t s:=by
 cases r with
 |st vs l t s=>exact cq e▸⟨t,s,rfl⟩|_=>exact cO e
theorem B7{r q:bP}(e:live r=ab q):q=r/\r≠.cA:=by
 cases r with
 |cA=>exact cO e|_=>exact⟨(cq e).symm,λz=>bP.noConfusion z⟩
theorem xq{rs:Rs}{i:ai}{α:Type}{f:bP->aD α}{x:α}{P:Prop}(hd:f .cA=aw)(e:f (fo rs i)=ab x)(k:∀r,rs[i]?=ab r->f r=ab x->P):P:=by
 have e:f ((rs[i]?).getD .cA)=ab x:=e
 cases q:rs[i]? with
 |none=>rw[q] at e;exact gK e hd|some r=>rw[q] at e;exact k r q e
theorem qD{rs:Rs}{i:ai}{r:bP}(h:fo rs i=r)(hr:r≠.cA):rs[i]?=ab r:=by
 have h:(rs[i]?).getD .cA=r:=h
 cases q:rs[i]? with
 |none=>rw[q] at h;exact(hr h.symm).elim|some r'=>rw[q] at h;exact ay ab h
theorem aaI{rs:Rs}{i:ai}{xs:af V}(e:mx (fo rs i)=ab xs):rs[i]?=ab (.ah xs):=qD (B4 e) λz=>bP.noConfusion z
section
variable{prog:cC}{w:dv}
theorem E7{g h:aI}{a:Ad}{r:bP}{xs:af V}(x:ip prog w g h a r)(e:mx r=ab xs):fx g h a.1 xs:=by
 cases r with
 |ah ys=>exact cq e▸x|_=>exact cO e
theorem Xc{g h:aI}{a:Ad}{r:bP}{p:af (aq×V)×af V}(x:ip prog w g h a r)(e:kK r=ab p):om prog w g h a.2.1 p.1/\fx g h a.2.2 p.2:=by
 cases r with
 |st vs l t s=>exact cq e▸x.2|_=>exact cO e
theorem ca.ah{g h:aI}{rs:Rs}{as:af Ad}{i:ai}{a:Ad}{xs:af V}(x:ca prog w g h rs as)(ha:as[i]?=ab a)(e:mx (fo rs i)=ab xs):fx g h a.1 xs:=xq rfl e λr h e=>E7 (x.root i r a h ha) e
theorem ca.st{g h:aI}{rs:Rs}{as:af Ad}{i:ai}{a:Ad}{p:af (aq×V)×af V}(x:ca prog w g h rs as)(ha:as[i]?=ab a)(e:kK (fo rs i)=ab p):om prog w g h a.2.1 p.1/\fx g h a.2.2 p.2:=xq rfl e λr h e=>Xc (x.root i r a h ha) e
theorem EU{r:bP}{a:Ad}{p:af (aq×V)×af V}(e:kK r=ab p):foot a r=[a.1,a.2.1,a.2.2]:=(K8 e).elim λ_ q=>q.elim λ_ q=>q▸rfl
theorem NO{r:bP}{a:Ad}{xs:af V}(e:mx r=ab xs):foot a r=[a.1]:=B4 e▸rfl
theorem ca.M6{g h:aI}{rs:Rs}{as:af Ad}{i:ai}{a:Ad}{p:af (aq×V)×af V}(x:ca prog w g h rs as)(ha:as[i]?=ab a)(e:kK (fo rs i)=ab p):(a.2.1==jl)=ag/\(a.2.2==jl)=ag:=
 xq rfl e λr h e=>⟨beq_eq_false_iff_ne.mpr (x.ck _ (lQ h ha<|EU e▸.tail _ (.head _))).2,beq_eq_false_iff_ne.mpr (x.ck _ (lQ h ha<|EU e▸.tail _ (.tail _ (.head _)))).2⟩
def Vw(g h:aI)(v:aB):V->Prop
 | .list ds=>∃a items,v=.ref a/\h.IsList a items/\a7 (Rd g) items.toList ds|d=>Rd g v d
theorem fx.is{g h:aI}{a:aP}{xs:af V}(x:fx g h a xs):∃items,h.IsList a items/\a7 (Rd g) items.toList xs:=x.imp λitems q=>q.elim λn q=>⟨⟨_,q.1,rfl,n,rfl⟩,q.2⟩
theorem fx.vw{g h:aI}{a:aP}{xs:af V}{v:aB}(x:fx g h a xs)(e:v=.ref a):Vw g h v (.list xs):=x.is.elim λitems p=>⟨a,items,e,p.1,p.2⟩
theorem Vw.M0{g h:aI}(l:Le g h){v:aB}{d:V}(r:Rd g v d):Vw g h v d:=by
 cases d with
 |list ds=>exact r.y6.imp λ_ q=>q.imp λ_ q=>⟨q.1,IsList.le l q.2.1,q.2.2⟩
 |_=>exact r
theorem Vw.rd{g h:aI}(l:Le g h){v:aB}{d:V}(r:Vw g h v d):Rd h v d:=by
 cases d with
 |list ds=>exact r.elim λ_ q=>q.elim λ_ q=>q.1▸Rd.list q.2.1 (Rd.o6 l q.2.2)|_=>exact Rd.aU l r
theorem Vw.QO{g h:aI}(l:Le g h){v:aB}{d:V}(r:Vw g h v d):d.canLay0=ae:=(r.rd l).2
theorem vK{g h h₀ h₁:aI}{rs:Rs}{as:af Ad}{m:MV}{v:aB}{d:V}(rel:ca prog w g h rs as)(tr:TR prog w g h h₀ h₁ as m v)(e:view m rs=ab d):Vw g h v d:=by
 cases m with
 |val d'=>exact cq e▸Vw.M0 rel.le tr|own r=>exact map.on e λxs e1 e2=>e2▸tr.2.elim λa q=>(E7 q.2.1 e1).vw q.1|ref i=>exact map.on e λxs e1 e2=>e2▸tr.elim λa q=>(rel.ah q.1 e1).vw q.2|bM i=>exact map.on e λp e1 e2=>e2▸tr.elim λa q=>(rel.st q.1 e1).2.vw q.2|vars i=>exact cO e
theorem ca.uA{g h:aI}{rs:Rs}{as:af Ad}{L:af aP}(x:ca prog w g h rs as)(hL:∀b∈bp rs as,b∉L):ca prog w (iG g h L) h rs as where
 le:=A5
 len:=x.len
 root:=λi r a h1 h2=>(x.root i r a h1 h2).step (my x.le) λ_ _ _ e=>e
 nodup:=x.nodup
 ck:=λb hb=>⟨xJ.mpr λo q=>hL b hb (vI q (x.ck b hb).1),(x.ck b hb).2⟩
theorem yY{rs:Rs}{as:af Ad}{i:ai}{r:bP}{a:Ad}(h1:rs[i]?=ab r)(h2:as[i]?=ab a)(hd:(bp rs as).Nodup):∀b∈bp (rs.set i .cA) as,b∈bp rs as/\b∉foot a r:=
 λb hb=>(PW h1 h2 hd hb).elim (λk=>(gA k).elim) id
theorem ca.Oy{g h:aI}{rs:Rs}{as:af Ad}{i:ai}{r:bP}{a:Ad}(x:ca prog w g h rs as)(h1:rs[i]?=ab r)(h2:as[i]?=ab a):ca prog w g h (rs.set i .cA) as where
 le:=x.le
 len:=x.len.trans pC.symm
 root:=λj q c e1 e2=>E0 h1 e1 (λ_ e=>e▸trivial) λ_ e1=>x.root j q c e1 e2
 nodup:=PV h1 h2 .nil (λ_ k=>(gA k).elim) x.nodup
 ck:=λb hb=>x.ck b (yY h1 h2 x.nodup b hb).1
variable(prog w) in
def Ac(g h h₀ h₁:aI)(rs cj:Rs)(as:af Ad)(v:aB)(d:V):Prop:=
 ∃L,ca prog w (iG g h L) h cj as/\Rd (iG g h L) v d/\(∀b∈bp cj as,b∈bp rs as)/\(∀b∈L,b∈bp rs as\/(h₀.get? b=aw/\(h₁.get? b).isSome=ae))
section
variable{g h h₀ h₁:aI}{rs cj:Rs}{as:af Ad}{m:MV}{v:aB}{d:V}{b:aP}{xs:af V}{i:ai}{r:bP}{a:Ad}
theorem PD(e:v=.ref b)(rel:ca prog w g h cj as)(l:fx g h b xs)(nb:b∉bp cj as)(sub:∀c∈bp cj as,c∈bp rs as)(k:b∈bp rs as\/(h₀.get? b=aw/\(h₁.get? b).isSome=ae)):Ac prog w g h h₀ h₁ rs cj as v (.list xs):=
 ⟨[b],rel.uA λc hc q=>nb (cU.mp q▸hc),e▸l.is.elim λitems p=>Rd.list (p.1.imp λo q=>⟨(yl<|.head _).trans q.1,q.2⟩) (Rd.o6 (my rel.le) p.2),sub,λc hc=>cU.mp hc▸k⟩
theorem PC(e:v=.ref b)(rel:ca prog w g h rs as)(h1:rs[i]?=ab r)(h2:as[i]?=ab a)(hb:b∈foot a r)(l:fx g h b xs):Ac prog w g h h₀ h₁ rs (rs.set i .cA) as v (.list xs):=
 PD e (rel.Oy h1 h2) l (λk=>(yY h1 h2 rel.nodup b k).2 hb) (λc hc=>(yY h1 h2 rel.nodup c hc).1) (.inl<|lQ h1 h2 hb)
theorem HO{p:V×Rs}(rel:ca prog w g h rs as)(tr:TR prog w g h h₀ h₁ as m v)(e:jr m rs=ab p)(hF:∀b∈bp rs as,(h₀.get? b).isSome=ae):Ac prog w g h h₀ h₁ rs p.2 as v p.1:=by
 cases m with
 |val d'=>exact cq e▸⟨[],rel.uA λ_ _ q=>(gA q).elim,Rd.aU (my rel.le) tr,λ_ h=>h,λ_ q=>(gA q).elim⟩|own r=>
  exact map.on e λxs e1 e2=>e2▸tr.2.elim λa q=>have ha:a.1∈foot a r:=NO e1▸.head _
   PD q.1 rel (E7 q.2.1 e1) (λk=>qg (hF _ k) (q.2.2.2 _ ha).2.1) (λ_ h=>h) (.inr ⟨(q.2.2.2 _ ha).2.1,(q.2.2.2 _ ha).2.2.1⟩)
 |ref i=>exact map.on e λxs e1 e2=>e2▸tr.elim λa q=>xq rfl e1 λr h1 e=>PC q.2 rel h1 q.1 (NO e▸.head _) (rel.ah q.1 e1)|bM i=>exact map.on e λxs e1 e2=>e2▸tr.elim λa q=>xq rfl e1 λr h1 e=>PC q.2 rel h1 q.1 (EU e▸.tail _ (.tail _ (.head _))) (rel.st q.1 e1).2|vars i=>exact cO e
end
variable(prog w)
inductive eh(g h:aI)(as:af Ad):aI->af MV->af aB->Prop
 |nil {h₀:aI}:eh g h as h₀ [] []
 |cons {h₀ h₁:aI} {m:MV} {v:aB} {ms:af MV} {vs:af aB}:TR prog w g h h₀ h₁ as m v->(∀b,h₁.get? b=aw->h₀.get? b=aw)->eh g h as h₁ ms vs->eh g h as h₀ (m::ms) (v::vs)
variable{prog w}
theorem eh.BZ{g h h₀:aI}{as:af Ad}{vs:af aB}(x:eh prog w g h as h₀ [] vs):vs=[]:=by cases x;rfl
theorem eh.on{g h h₀:aI}{as:af Ad}{m:MV}{ms:af MV}{vs:af aB}{P:af aB->Prop}(x:eh prog w g h as h₀ (m::ms) vs)(k:∀h₁ v eB,TR prog w g h h₀ h₁ as m v->(∀b,h₁.get? b=aw->h₀.get? b=aw)->eh prog w g h as h₁ ms eB->P (v::eB)):P vs:=by
 cases x with
 |cons t hd ts=>exact k _ _ _ t hd ts
theorem eh.uA{g h h₀:aI}{L:af aP}{as:af Ad}{ms:af MV}{vs:af aB}(x:eh prog w g h as h₀ ms vs)(l:Le g h)(hL:∀b∈L,(h₀.get? b).isSome=ae):eh prog w (iG g h L) h as h₀ ms vs:=by
 induction x with
 |nil=>exact .nil|cons t hd _ ih=>exact .cons (t.uA l λb hb=>.inl<|hL b hb) hd (ih λb hb=>r8 hd<|hL b hb)
structure Up(g h h₀:aI)(F:af aP)(g':aI):Prop where
 gg:Le g g'
 gh:Le g' h
 new:∀b o,g'.get? b=ab o->g.get? b=aw->b∈F\/h₀.get? b=aw
theorem Up.iG{g h h₀:aI}{F L:af aP}(l:Le g h)(hL:∀b∈L,b∈F\/h₀.get? b=aw):Up g h h₀ F (iG g h L):=
 ⟨my l,A5,λb _ e n=>hL b<|vI e n⟩
theorem Up.trans{g h h₀ h₁ dw gM:aI}{F sC:af aP}(a:Up g h h₀ F dw)(b:Up dw h h₁ sC gM)(hF:∀x∈sC,x∈F)(hd:∀b,h₁.get? b=aw->h₀.get? b=aw):Up g h h₀ F gM:=
 ⟨a.gg.trans b.gg,b.gh,λx o e n=>by
  cases q:dw.get? x with
  |some o'=>exact a.new x o' q n|none=>exact(b.new x o e q).imp (hF x)<|hd x⟩
theorem Up.refl{g h h₀:aI}{F:af aP}(l:Le g h):Up g h h₀ F g:=⟨.refl _,l,λ_ _ e n=>gK e n⟩
theorem Step.up{g h dw h₁ gM:aI}{F sC:af aP}(a:Step g h F dw h₁)(b:Up dw h₁ h sC gM)(hF:∀x∈sC,x∈F):Step g h F gM h₁:=
 ⟨a.gg.trans b.gg,b.gh,a.frame,λx o e n=>by
  cases q:dw.get? x with
  |some o'=>exact a.new x o' q n|none=>exact((b.new x o e q).imp (hF x) id).symm,a.f7⟩
theorem Ac.up{g h h₀ h₁:aI}{rs cj:Rs}{as:af Ad}{v:aB}{d:V}{P:Prop}(l:Le g h)(x:Ac prog w g h h₀ h₁ rs cj as v d)(k:∀L,Up g h h₀ (bp rs as) (iG g h L)->ca prog w (iG g h L) h cj as->Rd (iG g h L) v d->(∀b∈bp cj as,b∈bp rs as)->(∀b∈L,b∈bp rs as\/(h₁.get? b).isSome=ae)->P):P:=
 x.elim λL q=>k L (.iG l λb hb=>(q.2.2.2 b hb).imp id (·.1)) q.1 q.2.1 q.2.2.1 λb hb=>(q.2.2.2 b hb).imp id (·.2)
variable(prog w) in
abbrev RR(g h h₀:aI)(rs:Rs)(as:af Ad)(vs:af aB)(q:af V×Rs):Prop:=∃g',Up g h h₀ (bp rs as) g'/\ca prog w g' h q.2 as/\a7 (Rd g') vs q.1/\(∀b∈bp q.2 as,b∈bp rs as)
theorem ac0{h:aI}{as:af Ad}{ms:af MV}:∀{vs:af aB}{g h₀:aI}{rs:Rs}{q:af V×Rs},eh prog w g h as h₀ ms vs->ca prog w g h rs as->sY ms rs=ab q->(∀b∈bp rs as,(h₀.get? b).isSome=ae)->RR prog w g h h₀ rs as vs q:=by
 induction ms with
 |nil=>exactλ{vs g h₀ rs q} x rel e _=>cq e▸x.BZ▸⟨g,.refl rel.le,rel,.nil,λ_ h=>h⟩|cons m ms ih=>
  exactλ{vs g h₀ rs q} x rel e hF=>x.on (P:=λvs=>RR prog w g h h₀ rs as vs q) λh₁ v eB t hd ts=>bind.on e λp e1 e=>map.on e λq e2 e=>e▸(HO rel t e1 hF).up rel.le λL u r1 r2 r3 r4=>
    (ih (ts.uA rel.le λb hb=>(r4 b hb).elim (λq=>r8 hd<|hF b q) id) r1 e2 λb hb=>r8 hd<|hF b (r3 b hb)).imp λg' k=>⟨u.trans k.1 r3 hd,k.2.1,.cons (r2.aU k.1.gg) k.2.2.1,λb hb=>r3 b<|k.2.2.2 b hb⟩
theorem PF{m:MV}{v:aB}{g h h₀ h₁:aI}{as:af Ad}{rs:Rs}{p:V×Rs}(t:TR prog w g h h₀ h₁ as m v)(rel:ca prog w g h rs as)(e:jr m rs=ab p)(hF:∀b∈bp rs as,(h₀.get? b).isSome=ae):
  ∃g',Up g h h₀ (bp rs as) g'/\ca prog w g' h p.2 as/\Rd g' v p.1/\(∀b∈bp p.2 as,b∈bp rs as):=(HO rel t e hF).up rel.le λL u r1 r2 r3 _=>⟨_,u,r1,r2,r3⟩
end
section
variable{prog:cC}{w:dv}{A:fJ}
noncomputable def d9{α:Type}(g:aI)(s:aZ)(P:aI->aI->α->Prop):α->aZ->Prop:=λv s'=>
 ∃g' h' tk,s'={s with heap:=h',toks:=tk}/\Step g s.heap [] g' h'/\P g' h' v
theorem d9.eN{α:Type}{g:aI}{s:aZ}{P:aI->aI->α->Prop}{v:α}(tk:ai)(l:Le g s.heap)(p:P g s.heap v):d9 g s P v {s with toks:=tk}:=⟨g,s.heap,tk,rfl,.refl _ l,p⟩
theorem d9.fZ{α:Type}{g:aI}{s:aZ}{P:aI->aI->α->Prop}{v:α}(l:Le g s.heap)(p:P g s.heap v):d9 g s P v s:=⟨g,s.heap,s.toks,rfl,.refl _ l,p⟩
theorem d9.fm{α:Type}{g:aI}{s:aZ}{P:aI->aI->α->Prop}{v:α}{h':aI}(tk:ai)(l:Le g s.heap)(k:Le s.heap h')(p:P g h' v):d9 g s P v {s with heap:=h',toks:=tk}:=⟨g,h',tk,rfl,.fm _ l k,p⟩
noncomputable def jz(h:aI):Prop:=∃m₁ m₂,h.Ns Dx m₁/\h.Ns Sw m₂
theorem fN(h:aI):h.get? h.objs.size=aw:=xJ.mpr λo e=>Ax _ (sI e)
theorem gI(h:aI)(o:pj):Le h (h.push o):=λ_ _ e=>I8 o e
theorem ES{g h h':aI}{a:aP}(l:Le g h)(k:Le h h')(n:h.get? a=aw):Step g h [] (iG g h' [a]) h':=
 ⟨my (l.trans k),A5,λb o e _=>k b o e,λb o e hn=>.inl (cU.mp (vI e hn)▸n),λb e=>k.none e⟩
theorem jz.le{h h':aI}(x:jz h)(k:Le h h'):jz h':=x.imp λ_=>.imp λ_=>.imp (·.keeps k) (·.keeps k)
theorem jz.qA{h:aI}(x:jz h):h.objs.size≠jl:=λe=>x.elim λ_ x=>x.elim λ_ x=>dk (e▸x.1.lt) aa
theorem B0{g h h':aI}{as:af Ad}{items:cT aB}{xs:af V}{a:aP}{n:ai}(l:Le g h)(k:Le h h')(e:h.get? a=aw)(hs:a≠jl)(q:h'.get? a=ab {cls:=.type "list",data:=.seq items n})(r:a7 (Rd g) items.toList xs):TR prog w g h' h h' as (.own<|.ah xs) (.ref a):=
 ⟨λz=>bP.noConfusion z,(a,0,0),rfl,⟨items,n,q,r⟩,.cons (λ_ q=>(gA q).elim) .nil,λb hb=>cU.mp hb▸⟨l.none e,e,ay sM q,hs⟩⟩
section
variable{g:aI}{s:aZ}{items:cT aB}{ds:af V}
theorem MC(l:Le g s.heap)(r:a7 (Rd g) items.toList ds):d9 g s (λg' _ v=>Rd g' v<|.tuple ds) (.ref s.heap.objs.size) {s with heap:=s.heap.push {cls:=.type "tuple",data:=.seq items}}:=
 ⟨_,_,s.toks,rfl,ES l (gI _ _) (fN _),Rd.tuple ⟨_,(yl<|.head _).trans (lz _ rfl),rfl,0,rfl⟩<|Rd.o6 (my<|l.trans (gI _ _)) r⟩
theorem YK(l:Le g s.heap)(r:a7 (Rd g) items.toList ds):d9 g s (λg' _ v=>Rd g' v<|.list ds) (.ref s.heap.objs.size) {s with heap:=s.heap.push {cls:=.type "list",data:=.seq items}}:=
 ⟨_,_,s.toks,rfl,ES l (gI _ _) (fN _),Rd.list ⟨_,(yl<|.head _).trans (lz _ rfl),rfl,0,rfl⟩<|Rd.o6 (my<|l.trans (gI _ _)) r⟩
theorem BK{as:af Ad}(l:Le g s.heap)(bU:jz s.heap)(r:a7 (Rd g) items.toList ds):
  d9 g s (λg' h' v=>TR prog w g' h' s.heap h' as (.own<|.ah ds) v) (.ref s.heap.objs.size) {s with heap:=s.heap.push {cls:=.type "list",data:=.seq items}}:=
 .fm s.toks l (gI _ _) (B0 l (gI _ _) (fN _) bU.qA (lz _ rfl) r)
end
theorem MP{g:aI}{s:aZ}{vs:af aB}{ds:af V}(l:Le g s.heap)(r:a7 (Rd g) vs ds)(hz:vs.length<=jm):
  aT (bH prog w) A (Si vs) (d9 g s λg' _ v=>Rd g' v<|.tuple ds) No s:=Aj (MC (items:=vs.toArray) l r) hz
theorem ZH{g:aI}{s:aZ}{as:af Ad}{vs:af aB}{ds:af V}(l:Le g s.heap)(bU:jz s.heap)(r:a7 (Rd g) vs ds)(hz:vs.length<=jm):
  aT (bH prog w) A (Sj vs) (d9 g s λg' h' v=>TR prog w g' h' s.heap h' as (.own<|.ah ds) v) No s:=Aj (BK (items:=vs.toArray) l bU r) hz
theorem ry{x y:aq}(hx:fc x=ae)(hy:fc y=ae):fc (x++y)=ae:=
 Array.all_append.trans (dc.mpr ⟨hx,hy⟩)
theorem M1{o:pj}{T:String}{items:cT aB}{n:ai}(h1:o.cls=.type T)(h2:o.data=.seq items n):o={cls:=.type T,dict:=o.dict,data:=.seq items n,slots:=o.slots}:=by rw[<-h1,<-h2]
theorem BS{h:aI}{a:aP}{items:cT aB}(x:h.IsList a items):∃d n sl,h.get? a=ab {cls:=.type "list",dict:=d,data:=.seq items n,slots:=sl}:=
 x.elim λo q=>q.2.2.elim λn hd=>⟨o.dict,n,o.slots,q.1.trans (ay ab<|M1 q.2.1 hd)⟩
theorem BR{h:aI}{a:aP}{items:cT aB}(x:h.IsTuple a items):∃d n sl,h.get? a=ab {cls:=.type "tuple",dict:=d,data:=.seq items n,slots:=sl}:=
 x.elim λo q=>q.2.2.elim λn hd=>⟨o.dict,n,o.slots,q.1.trans (ay ab<|M1 q.2.1 hd)⟩
section
variable{p q:aP}{i1 i2:cT aB}{Q:aB->aZ->Prop}{E:aB->aZ->Prop}{s:aZ}
open PyProof.Rows
theorem sx(h1:s.heap.IsTuple p i1)(h2:s.heap.IsTuple q i2)(hz:i1.size+i2.size<=jm)
  (k0:i1.isEmpty=ae->Q (.ref q) s)(k1:i2.isEmpty=ae->Q (.ref p) s)(k2:Q (.ref s.heap.objs.size) {s with heap:=s.heap.push {cls:=.type "tuple",data:=.seq (i1++i2)}}):aT (bH prog w) A (jX .Add (.ref p)<|.ref q) Q E s:=
 (BR h1).elim λdd z=>z.elim λn z=>z.elim λsl ho=>(BR h2).elim λzL z=>z.elim λn2 z=>z.elim λmq n7=>
  have go:=λ{S} g h=>ah7 (prog:=prog) (w:=w) (A:=A) (Q:=Q) (E:=E) (S:=S) (s:=s) (a:=.ref p) (b:=.ref q) ⟨_,ho,rfl⟩ ⟨_,n7,rfl⟩ noFill_tuple_add seq_tuple_add F.slot_tuple_add F.entry_tuple_add (F.args_tuple_add_2 _ _) g h
  (ajH i1.isEmpty).elim (λe=>go (tuple_addW0 p q i1 i2 n n2 dd zL sl mq e) ⟨ho,n7,k0 e⟩) λe=>(ajH i2.isEmpty).elim
   (λe'=>go (tuple_addW1 p q i1 i2 n n2 dd zL sl mq (cz.mp e) e') ⟨ho,n7,k1 e'⟩) λe'=>go (tuple_addW2 p q i1 i2 n n2 dd zL sl mq (cz.mp e) (cz.mp e') hz) ⟨ho,n7,k2⟩
theorem ahp(h1:s.heap.IsList p i1)(h2:s.heap.IsList q i2)(hz:i1.size+i2.size<=jm)
  (k:Q (.ref s.heap.objs.size) {s with heap:=s.heap.push {cls:=.type "list",data:=.seq (i1++i2)}}):aT (bH prog w) A (jX .Add (.ref p)<|.ref q) Q E s:=
 (BS h1).elim λdd z=>z.elim λn z=>z.elim λsl ho=>(BS h2).elim λzL z=>z.elim λn2 z=>z.elim λmq n7=>
  ah7 ⟨_,ho,rfl⟩ ⟨_,n7,rfl⟩ noFill_list_add seq_list_add F.slot_list_add F.entry_list_add (F.args_list_add_2 _ _) (list_addW p q i1 i2 n n2 dd zL sl mq hz) ⟨ho,n7,k⟩
end
theorem LZ{α:Type}(x:α):∀(k:ai)(b:cT α),(List.foldl (λx1 x2=>x1++x2) b<|eW k #[x]).toList=b.toList++eW k x
 |0,b=>(fy _).symm|k+1,b=>(LZ x k<|b++#[x]).trans (by rw[DY,oz];rfl)
theorem HR{x:aH}(h0:0<=x)(hz:x<=100000):SQ x=ae:=dc.mpr ⟨gQ (qZ aa h0),gQ<|AE hz aa⟩
theorem ZZ{n:ai}(h:n<=100000):¬ SP n=ae:=λq=>dk (eV q) (nK.mpr<|aj h aa)
open PyProof.Rows in
theorem mul_one{p:aP}{v:aB}{x:aH}{u:mR}{Q:aB->aZ->Prop}{E:aB->aZ->Prop}{s:aZ}(h1:s.heap.IsList p #[v])(h0:0<=x)(hz:x<=100000)
  (k:∀items:cT aB,items.toList=eW x.toNat v->Q (.ref s.heap.objs.size) {s with heap:=s.heap.push {cls:=.type "list",data:=.seq items}}):aT (bH prog w) A (jX .Mult (.ref p)<|.int x u) Q E s:=
 (BS h1).elim λdd z=>z.elim λn z=>z.elim λsl ho=>
  have z:(#[v]:cT aB).size*x.toNat<=100000:=(ai2 x.toNat).symm▸Int.toNat_le.mpr hz
  wpAny_binaryOp_repeat_ref (T:="list") (U:="int") aa ⟨_,ho,rfl⟩ (λs'=>typeIs_int s' x u) noFill_list_mul F.fills_int_mul aiE repeat_list F.slot_int_index.lookup
  (Aq aiE (typeIs_int s x u) F.entry_int_rmul (F.args_int_rmul_2 _ _) (lm_int_rmul_list_any x u p #[v] n dd sl)
   ⟨ho,rfl,⟨_,ho,rfl⟩,Aq F.slot_list_mul ⟨_,ho,rfl⟩ F.entry_list_mul (F.args_list_mul_2 _ _)
    (lm_list_mul_any p #[v] n dd sl x u (λq=>nomatch (ay (!·)<|HR h0 hz).symm.trans q) (nK.mpr<|aj z aa) (ZZ z)) ⟨ho,k _ (LZ v _ #[])⟩⟩)
theorem Nj{i:cT aB}{g:aI}{ds:af V}(r:a7 (Rd g) i.toList ds)(e:i.isEmpty=ae):ds=[]:=ajw (r.length.symm.trans<|Array.isEmpty_iff_size_eq_zero.mp e)
theorem o3{n:ai}(h:n<=100000):n<=jm:=aj h aa
theorem a7.bS{α β:Type}{R:α->β->Prop}{i:cT α}{ds:af β}(a:a7 R i.toList ds):i.size=ds.length:=a.length
theorem a7.uC{α β:Type}{R:α->β->Prop}{i:cT α}{ds:af β}(a:a7 R i.toList ds)(h:ds.length<=100000):i.size<=jm:=o3 (a.bS.symm▸h)
theorem Be{α β:Type}{R:α->β->Prop}{i j:cT α}{ds es:af β}(a:a7 R i.toList ds)(b:a7 R j.toList es)(h:ds.length+es.length<=100000):i.size+j.size<=jm:=o3 (a.bS.symm▸b.bS.symm▸h)
theorem Iu{α β:Type}{R:α->β->Prop}{i j:cT α}{ds es:af β}(a:a7 R i.toList ds)(b:a7 R j.toList es):a7 R (i++j).toList (ds++es):=DY.symm▸a.append b
abbrev Rt(prog:cC)(w:dv)(s:aZ)(as:af Ad)(m:MV):aI->aI->aB->Prop:=λg' h' v=>TR prog w g' h' s.heap h' as m v
section
variable{g:aI}{s:aZ}{as:af Ad}{v eZ eG:aB}{x y:V}{m:MV}{i j:aH}{P:Prop}
theorem Rd.fQ{P:aB->Prop}(r:Rd g v (.int i))(k:∀t,P<|.int i t):P v:=r.wY.elim λt q=>q▸k t
theorem Rd.kJ{P:aB->Prop}{x:aq}(r:Rd g v (.str x))(k:∀t,P<|.str x t):P v:=r.yr.elim λt q=>q▸k t
theorem Vw.int(r:Vw g s.heap v x)(e:ic x=ab i):Rd g v (.int i):=show Vw g s.heap v (.int i) from qu e▸r
theorem Vw.str{i:aq}(r:Vw g s.heap v x)(e:lE x=ab i):Rd g v (.str i):=show Vw g s.heap v (.str i) from s5 e▸r
theorem Vw.aC{i:af V}(r:Vw g s.heap v x)(e:ED x=ab i):Rd g v (.tuple i):=show Vw g s.heap v (.tuple i) from UQ e▸r
theorem Vw.ah{i:af V}(r:Vw g s.heap v x)(e:rR x=ab i):∃a items,v=.ref a/\s.heap.IsList a items/\a7 (Rd g) items.toList i:=show Vw g s.heap v (.list i) from Gi e▸r
theorem zx(l:Le g s.heap)(i:aH){t:mR}{tk:ai}:d9 g s (Rt prog w s as (.val<|.int i)) (.int i t) {s with toks:=tk}:=.eN tk l (Rd.int i t)
theorem ZQ(l:Le g s.heap)(bU:jz s.heap)(dR:Vw g s.heap eZ x)(ef:Vw g s.heap eG y)(e:RI x y=ab m):aT (bH prog w) A (jX .Add eZ eG) (d9 g s<|Rt prog w s as m) No s:=by
 cases x with
 |int a=>exact map.on e λb e1 e=>e▸Rd.fQ (P:=λv=>aT _ _ (jX .Add v eG) _ _ _) dR λt=>Rd.fQ (P:=λv=>aT _ _ (jX .Add _ v) _ _ _) (ef.int e1) λu=>akV (zx l _)|str a=>
  exact bind.on e λb e1 e=>(fi e).2▸Rd.kJ (P:=λv=>aT _ _ (jX .Add v eG) _ _ _) dR λt=>Rd.kJ (P:=λv=>aT _ _ (jX .Add _ v) _ _ _) (ef.str e1) λu=>
   akU (λt' tk=>.eN _ l<|Rd.str _ (ry (Rd.strOk dR) (ef.str e1).strOk)) (o3 (fi e).1)
 |tuple a=>
  exact bind.on e λb e1 e=>(fi e).2▸(Rd.kG dR).elim λp j6=>j6.elim λi1 j6=>(ef.aC e1).kG.elim λq j5=>j5.elim λi2 j5=>j6.1▸j5.1▸
   sx (IsTuple.le l j6.2.1) (IsTuple.le l j5.2.1) (Be j6.2.2 j5.2.2 (fi e).1) (λz=>.fZ l<|Nj j6.2.2 z▸Rd.tuple j5.2.1 j5.2.2) (λz=>.fZ l<|Nj j5.2.2 z▸(fy a).symm▸Rd.tuple j6.2.1 j6.2.2) (MC l<|Iu j6.2.2 j5.2.2)
 |list a=>exact bind.on e λb e1 e=>(fi e).2▸dR.elim λp j6=>j6.elim λi1 j6=>(ef.ah e1).elim λq j5=>j5.elim λi2 j5=>j6.1▸j5.1▸ahp j6.2.1 j5.2.1 (Be j6.2.2 j5.2.2 (fi e).1) (BK l bU<|Iu j6.2.2 j5.2.2)|_=>exact cO e
theorem ZT{xs:af V}{c:az}(e:MX xs=ab c):xs=[.bool c]:=by
 cases xs with
 |nil=>exact cO e|cons x r=>cases r with
  |nil=>exact afq e▸rfl|cons y r=>exact cO e
theorem ahl{α β:Type}{R:α->β->Prop}{i:cT α}{y:β}{ys:af β}(a:a7 R i.toList ys)(e:ys=[y]):∃x,i=#[x]/\R x y:=
 (List.length_eq_one_iff.mp<|a.length.trans (ay DT e)).elim λx hx=>⟨x,DX.mp hx,(a.get (i:=0)<|e▸rfl).elim λx' p=>(cq ((ay (λl:af α=>l[0]?) hx).symm.trans p.1):x=x')▸p.2⟩
theorem aft{k:aH}(h:k.natAbs<=100000):akp k<=64:=have k {j:aH} (h:j.natAbs<=100000):j<2 ^ 64:=AE Int.le_natAbs (AE (ve.mpr h) aa)
 PySem.intBits_le_64 (Int.neg_lt_of_neg_lt<|k ((Int.natAbs_neg _).symm▸h)) (k h)
theorem ZG(l:Le g s.heap)(dR:Vw g s.heap eZ x)(ef:Rd g eG (.int j))(e:NG x j=ab m):aT (bH prog w) A (jX .Mult eZ eG) (d9 g s<|Rt prog w s as m) No s:=
 Rd.fQ (P:=λv=>aT _ _ (jX .Mult eZ v) _ _ _) ef λu=>by
  cases x with
  |int a=>exact(eC e).2▸Rd.fQ (P:=λv=>aT _ _ (jX .Mult v _) _ _ _) dR λt=>akF (zx l _) (aki<|aft (eC e).1.1)|list a=>
   exact bind.on e λc e1 e=>(eC e).2▸dR.elim λp q=>q.elim λi1 q=>q.1▸(ahl q.2.2<|ZT e1).elim λv z=>
    mul_one (z.1▸q.2.1) (eC e).1.1 (eC e).1.2 λitems hi=>YK l (hi▸z.2.uM▸a7.replicate (Rd.bool c) _)
  |_=>exact cO e
theorem ZN{o:Ai}(l:Le g s.heap)(bU:jz s.heap)(dR:Vw g s.heap eZ x)(ef:Vw g s.heap eG y)(e:ky o x y=ab m):aT (bH prog w) A (jX (FK o) eZ eG) (d9 g s<|Rt prog w s as m) No s:=by
 cases o with
 |add=>exact ZQ l bU dR ef e|sub=>exact bind.on e λb e2 e=>map.on e λa e1 e=>e▸Rd.fQ (P:=λv=>aT _ _ (jX .Sub v _) _ _ _) (dR.int e1) λt=>Rd.fQ (P:=λv=>aT _ _ (jX .Sub _ v) _ _ _) (ef.int e2) λu=>aku (zx l _)|mul=>exact bind.on e λb e2 e=>ZG l dR (ef.int e2) e|fdiv=>
  exact bind.on e λb e2 e=>bind.on e λa e1 e=>(eC e).2▸Rd.fQ (P:=λv=>aT _ _ (jX .FloorDiv v _) _ _ _) (dR.int e1) λt=>Rd.fQ (P:=λv=>aT _ _ (jX .FloorDiv _ v) _ _ _) (ef.int e2) λu=>
   akN (AD (eC e).1.1) (Int.fdiv_eq_ediv_of_nonneg a (vf (eC e).1.1)▸zx l _) (.inl<|PyProof.noPylong_small (lB ((ve (n:=1000000)).mp<|qZ (AF<|ajB (vf (eC e).1.1)) (eC e).1.2) aa))
 |jR=>
  exact bind.on e λb e2 e=>bind.on e λa e1 e=>(eC e).2▸Rd.fQ (P:=λv=>aT _ _ (jX .Mod v _) _ _ _) (dR.int e1) λt=>Rd.fQ (P:=λv=>aT _ _ (jX .Mod _ v) _ _ _) (ef.int e2) λu=>
   akG (AD (eC e).1) (Int.fmod_eq_emod_of_nonneg a (vf (eC e).1)▸zx l _)
end
end
section
variable{prog:cC}{w:dv}{A:fJ}
noncomputable def qr:aB->az
 | .none| .bool _| .int ..| .str ..| .ref _=>ae|_=>ag
theorem OK{v:aB}(hv:qr v=ae)(b:az):isSame v (.bool b)=pure (v==.bool b):=by cases v<;>first|rfl|cases hv
theorem abU{M:I5}{E:aB->aZ->Prop}{s:aZ}{v:aB}(hv:qr v=ae){b:az}{Q:aB->aZ->Prop}(h:Q (.bool<|v==.bool b) s):aT M A (qX .Is v<|.bool b) Q E s:=by
 show aT M A (do return .bool (<-isSame v (.bool b))) Q E s
 rw[OK hv];exact aY (b7<|b7 h)
theorem abX{M:I5}{E:aB->aZ->Prop}{s:aZ}{v:aB}(hv:qr v=ae){b:az}{Q:aB->aZ->Prop}(h:Q (.bool<|!(v==.bool b)) s):aT M A (qX .IsNot v<|.bool b) Q E s:=by
 show aT M A (do return .bool (!(<-isSame v (.bool b)))) Q E s
 rw[OK hv];exact aY (b7<|b7 h)
theorem Rd.by{g:aI}{v:aB}{d:V}{P:aB->V->Prop}(r:Rd g v d)(n:P .none .none)(b:∀b,P (.bool b)<|.bool b)(i:∀i t,P (.int i t)<|.int i)(s:∀x t,P (.str x t)<|.str x)(l:∀a xs,P (.ref a)<|.list xs)(u:∀a xs,P (.ref a)<|.tuple xs):P v d:=by
 cases d with
 |none=>exact r.wJ▸n|bool c=>exact r.uM▸b c|int j=>exact r.wY.elim λt q=>q▸i j t|str x=>exact r.yr.elim λt q=>q▸s x t|list x=>exact r.y6.elim λa q=>q.elim λ_ q=>q.1▸l a x|tuple x=>exact r.kG.elim λa q=>q.elim λ_ q=>q.1▸u a x|dict x=>exact r.H2.elim
section
variable{g h h₀ h₁:aI}{as:af Ad}{m:MV}{v u:aB}{d:V}{c:az}
theorem TR.shape{P:aB->MV->Prop}(t:TR prog w g h h₀ h₁ as m v)(hv:∀d,Rd g v d->P v (.val d))(hr:∀a m,fz m=aw->P (.ref a) m):P v m:=by
 cases m with
 |val x=>exact hv x t|own x=>exact t.2.elim λa q=>q.1▸hr a.1 _ rfl|ref x=>exact t.elim λa q=>q.2▸hr a.1 _ rfl|vars x=>exact t.elim λa q=>q.2▸hr a.2.1 _ rfl|bM x=>exact t.elim λa q=>q.2▸hr a.2.2 _ rfl
theorem TR.qr(t:TR prog w g h h₀ h₁ as m v):qr v=ae:=
 t.shape (P:=λv _=>Mine.qr v=ae) (λd r=>r.by (P:=λv _=>Mine.qr v=ae) rfl (λ_=>rfl) (λ_ _=>rfl) (λ_ _=>rfl) (λ_ _=>rfl) λ_ _=>rfl) λ_ _ _=>rfl
theorem TR.none(t:TR prog w g h h₀ h₁ as m v):(v==.none)=(fz m).any BW:=
 t.shape (P:=λv m=>(v==.none)=(fz m).any BW) (λd r=>r.by (P:=λv d=>(v==.none)=BW d) rfl (λ_=>rfl) (λ_ _=>rfl) (λ_ _=>rfl) (λ_ _=>rfl) λ_ _=>rfl) λa m e=>e▸rfl
theorem TR.bool(t:TR prog w g h h₀ h₁ as m v)(b:az):(v==.bool b)=((fz m).bind xo).any (b==·):=
 t.shape (P:=λv m=>(v==.bool b)=((fz m).bind xo).any (b==·)) (λd r=>r.by (P:=λv d=>(v==.bool b)=(xo d).any (b==·)) rfl (λc=>by cases b<;>cases c<;>rfl) (λ_ _=>rfl) (λ_ _=>rfl) (λ_ _=>rfl) λ_ _=>rfl) λa m e=>e▸rfl
theorem OI{P:Prop}(t:TR prog w g h h₀ h₁ as m v)(r:Rd g u d)(e:GO m d=ab c)(k1:u=.none->(v==.none)=c->P)(k2:∀b,u=.bool b->(v==.bool b)=c->P):P:=by
 cases d with
 |none=>exact k1 r.wJ (t.none.trans<|cq e)|bool b=>exact k2 b r.uM ((t.bool b).trans (cq e))|_=>exact cO e
end
theorem vM{x y n k:ai}(ok:Ok A n)(h:min x y<=100)(hk:k<=1):A.units+k+min x y<cLine:=
 lB (cQ (cQ (aj (aW _ _) ok.units) hk) h) (Jk (aa:9000+1+100<9900) rfl)
section
variable{g h₀ h₁ cH ez:aI}{s:aZ}{eZ eG:aB}{x y:V}{c:az}{n:ai}{rs:Rs}{as:af Ad}{o:uP}{a b:MV}
variable(prog w A) in
abbrev RT(o o':CmpOp)(g:aI)(s:aZ)(eZ eG:aB)(c:az):Prop:=
 aT (bH prog w) A (qX o eZ eG) (d9 g s λ_ _ v=>v=.bool c) No s/\aT (bH prog w) A (qX o' eZ eG) (d9 g s λ_ _ v=>v=.bool (!c)) No s
theorem HW(ok:Ok A n)(l:Le g s.heap)(dR:Vw g s.heap eZ x)(ef:Vw g s.heap eG y)(e:ny x y=ab c):RT prog w A .Eq .NotEq g s eZ eG c:=
 (eC e).2▸(dR.rd l).1.elim λas k1=>(ef.rd l).1.elim λbs k2=>
  ⟨SeqAt.compareEq_reads k1 k2 (dR.rd l).2 (ef.rd l).2 (vM ok (eC e).1<|bQ 1) (.fZ l rfl),SeqAt.neOverData prog w A No s eZ eG x y as bs _ k1 k2 (dR.rd l).2 (ef.rd l).2 (vM ok (eC e).1<|bQ 1) (.fZ l rfl)⟩
theorem OR(ok:Ok A n)(l:Le g s.heap)(dR:Vw g s.heap eZ x)(ef:Vw g s.heap eG y)(e:zq x y=ab c):RT prog w A .In .NotIn g s eZ eG c:=
 bind.on e λxs e1 e=>(eC e).2▸(dR.rd l).1.elim λas k1=>(ef.rd l).1.elim λbs k2=>by
  have c2:=(ef.rd l).2
  cases y with
  |list ys=>cases e1;exact⟨SeqAt.in_list_reads k2 k1 c2 (dR.rd l).2 (vM ok (eC e).1<|aF 1) (.fZ l rfl),SeqAt.notIn_list_reads k2 k1 c2 (dR.rd l).2 (vM ok (eC e).1<|aF 1)<|.fZ l rfl⟩|tuple ys=>cases e1;exact⟨SeqAt.in_tuple_reads k2 k1 c2 (dR.rd l).2 (vM ok (eC e).1<|aF 1) (.fZ l rfl),SeqAt.notIn_tuple_reads k2 k1 c2 (dR.rd l).2 (vM ok (eC e).1<|aF 1)<|.fZ l rfl⟩|_=>exact cO e1
theorem GQ(x:aq)(t:mR):Value.isStrOf x (.str x t)=ae:=gQ rfl
theorem a7.mz{K V':Type}{R:aB->V'->Prop}{kv:af (K×aB)}{bc:af (K×V')}(h:a7 (λp q=>p.1=q.1/\R p.2 q.2) kv bc):kv.map (·.1)=bc.map (·.1):=by
 induction h with
 |nil=>rfl|cons h1 _ ih=>exact congr (ay Ju h1.1) ih
theorem RA{K V':Type}{R:aB->V'->Prop}{kv:af (K×aB)}{bc:af (K×V')}(h:a7 (λp q=>p.1=q.1/\R p.2 q.2) kv bc)(f:K->az):(kv.any λp=>f p.1)=bc.any λp=>f p.1:=
 ajz.symm.trans ((ay (·.any f) h.mz).trans ajz)
theorem aez(x k:aq):decide (x=k)=(x==k):=ajG.mpr (decide_eq_true_iff.trans beq_iff_eq.symm)
theorem UA{V':Type}{R:aB->V'->Prop}{kv:af (aq×aB)}{bc:af (aq×V')}(h:a7 (λp q=>p.1=q.1/\R p.2 q.2) kv bc)(k:aq):(Al kv k).isSome=bc.any λp=>p.1==k:=
 Option.isSome_map.trans (List.isSome_find?.trans<|(RA h λx=>decide (x=k)).trans (ay (λf:aq->az=>bc.any λp=>f p.1)<|funext λx=>aez x k))
theorem uL{α:Type}{P:Prop}{f:V->V->aD α}{q:α}(rel:ca prog w g s.heap rs as)(fL:TR prog w g s.heap h₀ h₁ as a eZ)(fA:TR prog w g s.heap cH ez as b eG)(e:qL a b rs f=ab q)(k:∀x y,Vw g s.heap eZ x->Vw g s.heap eG y->f x y=ab q->P):P:=
 bind.on e λx e1 e=>bind.on e λy e2 e=>k x y (vK rel fL e1) (vK rel fA e2) e
theorem GU{P:aB->aB->az->Prop}{f:aH->aH->az}(dR:Vw g s.heap eZ x)(ef:Vw g s.heap eG y)(e:Cp f x y=ab c)(k:∀i j t u,P (.int i t) (.int j u)<|f i j):P eZ eG c:=
 bind.on e λi e1 e=>map.on e λj e2 e=>e▸Rd.fQ (P:=λv=>P v _ _) (dR.int e1) λt=>Rd.fQ (P:=λv=>P _ v _) (ef.int e2) λu=>k i j t u
theorem ZM(ok:Ok A n)(rel:ca prog w g s.heap rs as)(fL:TR prog w g s.heap h₀ h₁ as a eZ)(fA:TR prog w g s.heap cH ez as b eG)(e:cv o a b rs=ab c):aT (bH prog w) A (qX (uK o) eZ eG) (d9 g s λ_ _ v=>v=.bool c) No s:=by
 have l:=rel.le
 have rd:∀{d},fz b=ab d->Rd g eG d:=λ{d} e=>show TR prog w g s.heap cH ez as (.val d) eG from rm e▸fA
 cases o with
 |eq=>exact uL rel fL fA e λx y dR ef e=>(HW ok l dR ef e).1|ne=>exact uL rel fL fA e λx y dR ef e=>map.on e λc e1 e=>e▸(HW ok l dR ef e1).2|lt=>exact uL rel fL fA e λx y dR ef e=>GU (P:=λv u c=>aT _ _ (qX .Lt v u) (d9 g s λ_ _ v=>v=.bool c) _ _) dR ef e λi j t u=>akH (.fZ l rfl)|le=>exact uL rel fL fA e λx y dR ef e=>GU (P:=λv u c=>aT _ _ (qX .LtE v u) (d9 g s λ_ _ v=>v=.bool c) _ _) dR ef e λi j t u=>akJ (.fZ l rfl)|gt=>exact uL rel fL fA e λx y dR ef e=>GU (P:=λv u c=>aT _ _ (qX .Gt v u) (d9 g s λ_ _ v=>v=.bool c) _ _) dR ef e λi j t u=>akL (.fZ l rfl)|is=>exact bind.on e λd e1 e=>OI fL (rd e1) e (λq h=>q▸is_none (.fZ l<|ay DC h)) λb q h=>q▸abU fL.qr (.fZ l<|ay DC h)|kh=>exact bind.on e λd e1 e=>map.on e λc e2 e=>e▸OI fL (rd e1) e2 (λq h=>q▸isNot_none (.fZ l<|ay (λc=>DC<|!c) h)) λb q h=>q▸abX fL.qr (.fZ l<|ay (λc=>DC<|!c) h)|dt=>exact uL rel fL fA e λx y dR ef e=>(OR ok l dR ef e).1|lJ=>
  have go:=λ(e:qL a b rs (λx y=>(zq x y).map (!·))=ab c)=>uL rel fL fA e λx y dR ef e=>map.on e λc e1 e=>e▸(OR (prog:=prog) (w:=w) ok l dR ef e1).2
  cases b with
  |vars i=>
   exact bind.on e λd e1 e=>bind.on e λx e2 e=>map.on e λp e3 e=>e▸Rd.kJ (P:=λv=>aT _ _ (qX .NotIn v _) _ _ _) (show Rd g eZ (.str x) from s5 e2▸(show TR prog w g s.heap h₀ h₁ as (.val d) eZ from rm e1▸fL)) λtk=>
    fA.elim λad q=>(rel.st q.1 e3).1.elim λkv k=>q.2▸wpAny_notIn_of (knd:=iT prog w) (GQ x tk) (rel.M6 q.1 e3).1 k.1.mapOf (.eN _ l<|ay (λc=>DC<|!c) (UA k.2 x))
  |_=>exact go e
end
theorem rB{n:ai}(h:n<=100000):(n:aH)<2 ^ 63:=AE (ve.mpr h) aa
theorem Qd{R:aB->V->Prop}{i:cT aB}{xs:af V}(a:a7 R i.toList xs):(!i.isEmpty)=!xs.isEmpty:=by
 obtain⟨l⟩:=i
 cases a<;>rfl
theorem aac(n:ai):((n:aH)!=0)=(n !=0):=by cases n<;>rfl
section
variable{g h₀ h₁:aI}{s:aZ}{rs:Rs}{as:af Ad}{v:aB}{m:MV}{d:V}{c:az}
theorem Zx(l:Le g s.heap)(r:Vw g s.heap v d)(e:KO d=ab c):aT (bH prog w) A (uT v) (d9 g s λ_ _ b=>b=c) No s:=by
 cases d with
 |none=>exact cq e▸(Rd.wJ r)▸aks (.fZ l rfl)|bool b=>exact cq e▸(Rd.uM r)▸RW (.fZ l rfl)|int i=>exact cq e▸Rd.fQ (P:=λv=>aT _ _ (uT v) _ _ _) r λt=>PySem.P.truthy_int (.fZ l rfl)|str x=>exact(fi e).2▸Rd.kJ (P:=λv=>aT _ _ (uT v) _ _ _) r λt=>PySem.P.truthy_str (Tq.mpr<|rB (fi e).1) (.eN _ l<|aac _)|tuple xs=>exact(fi e).2▸(Rd.kG r).elim λa q=>q.elim λi q=>q.1▸akr (IsTuple.le l q.2.1) (rB<|q.2.2.bS▸(fi e).1) (.eN _ l<|Qd q.2.2)|list xs=>exact(fi e).2▸r.elim λa q=>q.elim λi q=>q.1▸wpAny_truthy_list q.2.1 (rB<|q.2.2.bS▸(fi e).1) (.eN _ l<|Qd q.2.2)|dict bc=>exact cO e
theorem Zw(rel:ca prog w g s.heap rs as)(t:TR prog w g s.heap h₀ h₁ as m v)(e:fM m rs=ab c):aT (bH prog w) A (uT v) (d9 g s λ_ _ b=>b=c) No s:=bind.on e λd hd e=>Zx rel.le (vK rel t hd) e
theorem ZF{i:aH}(l:Le g s.heap)(r:Rd g v (.int i)):aT (bH prog w) A (unaryOp .USub v) (d9 g s λg' _ u=>Rd g' u<|.int (-i)) No s:=Rd.fQ (P:=λv=>aT _ _ (unaryOp .USub v) _ _ _) r λt=>PySem.P.neg_int (.eN _ l<|Rd.int _ _)
end
end
section
variable{prog:cC}{w:dv}{A:fJ}
theorem Vl(slice:aX)(o i:aB):∃l,ahW slice ag o i=operate l (sG o i):=by
 cases slice with
 |Slice l u st p=>cases st<;>exact⟨_,rfl⟩|_=>exact⟨_,rfl⟩
theorem C7{E:aB->aZ->Prop}{s:aZ}{env:ff}{value slice:aX}{pos:eJ}{Q:aB->aZ->Prop}
  (h:aT (bH prog w) A (eR value env) (λo aA=>aT (bH prog w) A (eR slice env) (λi aS=>∃T id,R4 (.type T) "__getitem__"=pure (ab<|.builtin id)/\aS.TypeIs o T/\aT (bH prog w) A (sG o i) Q E aS) E aA) E s):
  aT (bH prog w) A (eR (.Subscript value slice pos) env) Q E s:=by
 rw[eval_Subscript]
 refine aY (fq h (λo aA h₁=>aY<|kB (fq h₁ (λi aS cH=>cH.elim λT q=>q.elim λid q=>aY<|jW ?_) λ_ _ x=>x)) λ_ _ x=>x)
 refine aY ?_
 rw[getitemInPython_of_ne q.2.1.not_modules]
 refine aY (IF q.2.1 q.1 ?_)
 have a6:aT (bH prog w) A (ahW slice ag o i) (λr i5=>aT (bH prog w) A (ah0 value o r>>=λ_=>pure r) Q E i5) E aS:=by
  have k:aT (bH prog w) A (sG o i) (λr i5=>aT (bH prog w) A (ah0 value o r>>=λ_=>pure r) Q E i5) E aS:=
   fq q.2.2 (λr i5 ez=>aY<|wpAny_letTemporaryGo (b7 ez)) λ_ _ x=>x
  exact(Vl slice o i).elim λq e=>e▸wpAny_operating k
 first
  |exact b7 (aY a6)
  |exact aY (b7<|aY a6)
  |exact aY a6
theorem Bv{i:aH}{n j:ai}{P:Prop}(e:xD i n=ab j)(kp:0<=i->i<n->i.toNat=j->P)(kn:i<0->0<=i+n->(i+n).toNat=j->P):P:=by
 have e:(if(decide (0<=(if i<0 then i+n else i))&&decide ((if i<0 then i+n else i)<n))=ae then ab (if i<0 then i+n else i).toNat else aw)=ab j:=e
 have h:=dc.mp (eC e).1
 have h':=(eC e).2
 by_cases z:i<0
 ·rw[a9 z] at h h';exact kn z (eV h.1) h'
 ·rw[br z] at h h';exact kp (eV h.1) (eV h.2) h'
theorem F1{i:aH}{n:ai}(h:0<=i+n):-(n:aH)<=i:=Int.le_of_sub_nonneg ((Int.sub_neg ..).symm▸h)
theorem yz{i:aH}{n j:ai}(e:xD i n=ab j)(hn:n<=100000):-(2 ^ 63)<=i/\i<2 ^ 63:=
 Bv e (λh1 h2 _=>⟨qZ aa h1,ajC h2<|rB hn⟩) λh1 h2 _=>⟨qZ (Int.neg_le_neg<|vf (rB hn)) (F1 h2),ajC h1 aa⟩
theorem WD{k:aH}{n:ai}(h:0<=k)(h':k<n):xD k n=ab k.toNat:=by
 show(if(decide (0<=(if k<0 then k+n else k))&&decide ((if k<0 then k+n else k)<n))=ae then ab (if k<0 then k+n else k).toNat else aw)=_
 rw[br<|DV.mpr h]
 exact a9 (dc.mpr ⟨gQ h,gQ h'⟩)
theorem LJ{i:aH}{n j:ai}(e:xD i n=ab j):-(n:aH)<=i/\i<n:=
 Bv e (λh1 h2 _=>⟨qZ (Int.neg_nonpos_of_nonneg<|xQ n) h1,h2⟩) λh1 h2 _=>⟨F1 h2,Tt h1<|xQ n⟩
theorem VU{i:aH}(h:-(2 ^ 63)<=i/\i<2 ^ 63):fitsSsize i=ae:=by
 unfold fitsSsize
 rw[uR (DV.mpr h.1),uR<|Tq.mpr h.2];rfl
theorem yO{i:aH}{n j:ai}(e:lI i n=ab j):xD i n=ab j/\n<=100000:=
 pE (λh:100000<n=>gK e<|a9 h) λh=>⟨(br h).symm.trans e,nK.mp h⟩
theorem afp:R4 (.type "bool") "__index__"=pure (ab<|.builtin "int.__index__"):=by rw[typeLookup_type,builtinLookup_eq_fast];kernel_rfl
theorem aaZ{M:I5}{A:fJ}{E:aB->aZ->Prop}{s:aZ}{b:az}{Q:aD aH->aZ->Prop}(h:Q (ab ((if b then 1 else 0:ai):aH)) s):aT M A (Je<|.bool b) Q E s:=by
 unfold Je
 refine aY (IF (T:="bool") (typeIs_bool s b) afp ?_)
 show aT M A (asIndex (.bool b)>>=_) Q E s
 refine aY (sF (a:=((if b then 1 else 0:ai):aH)) (by cases b<;>rfl) ?_)
 show aT M A (if(!SQ ((if b then 1 else 0:ai):aH))=ae then _ else _) Q E s
 rw[br<|by cases b<;>decide]
 exact b7 h
theorem acX{E:aB->aZ->Prop}{s:aZ}{l:aP}{items:cT aB}{b:az}{x:aB}{Q:aB->aZ->Prop}(hl:s.heap.IsList l items)
  (hx:items[(if b then 1 else 0:ai)]?=ab x)(h:Q x s):aT (bH prog w) A (sG (.ref l)<|.bool b) Q E s:=by
 refine hl.elim λo q=>q.2.2.elim λn hd=>?_
 unfold sG
 try with_reducible refine kB ?_
 first|refine aY (b7 ?_)|skip
 refine aY (RX hl.typeIs aa ?_)
 refine aY (Dq (name:=fU "__getitem__") hl.typeIs Am
  (xC Am hl.typeIs entry_list_getitem ?_ (args_list_getitem _ _)))
 show aT _ _ (Je (.bool b)>>=_) _ _ s
 refine aY (aaZ ?_)
 show aT _ _ ((seqItemAt l (if b then 1 else 0:ai)>>=λr=>pure<|r.map ((if b then 1 else 0:ai),·))>>=_) _ _ s
 refine aY (aY<|ahC q.1 hd (b7 ?_))
 rw[hx]
 first
  |exact aY (b7<|b7 ⟨x,rfl,b7 h⟩)
  |exact b7 ⟨x,rfl,b7 h⟩
def qR(A:fJ)(g:aI)(s:aZ)(o i:aB)(P:aI->aI->aB->Prop):Prop:=
 ∃T id,R4 (.type T) "__getitem__"=pure (ab<|.builtin id)/\s.TypeIs o T/\aT (bH prog w) A (sG o i) (d9 g s P) No s
theorem s6{x:aq}:fc x=ae↔∀c∈x.cps.toList,c<0x110000:=
 Array.all_eq_true'.trans ⟨λh c hc=>eV (h c<|Jz.mp hc),λh c hc=>gQ<|h c (Jz.mpr hc)⟩
theorem Vv{x:aq}(h:fc x=ae){j:ai}{c:ai}(e:x.cps[j]?=ab c):fc ⟨#[c]⟩=ae:=
 s6.mpr λd hd=>cU.mp hd▸s6.mp h c (Jz.mpr<|Array.mem_of_getElem? e)
section
variable{g:aI}{s:aZ}{o i v:aB}{a d:V}{k:aH}{items:cT aB}{xs:af V}{l:aP}
theorem a7.zY{R:aB->V->Prop}{j:ai}(h:a7 R items.toList xs)(e:xs[j]?=ab d):∃v,items[j]?=ab v/\R v d:=(h.get e).imp λ_=>.imp (JA.symm.trans ·) id
theorem acW{t:mR}{j:ai}{x:aB}{Q:aB->aZ->Prop}{E:aB->aZ->Prop}(hl:s.heap.IsList l items)(hn:items.size<=100000)(e:xD k items.size=ab j)(hx:items[j]?=ab x)(h:Q x s):aT (bH prog w) A (sG (.ref l)<|.int k t) Q E s:=
 Bv e (λh1 h2 q=>wpAny_getItem_list hl h1 (yz e hn).2 (q▸hx) h) λh1 h2 q=>wpAny_getItem_list_neg hl h1 (F1 h2) (yz e hn).1 (q▸hx) h
variable(prog w A) in
abbrev qQ(g:aI)(s:aZ)(o i:aB)(d:V):Prop:=qR (prog:=prog) (w:=w) A g s o i (λg' _ v=>Rd g' v d)
theorem abQ(l:Le g s.heap)(ro:Vw g s.heap o a)(ri:Rd g i (.int k))(e:OX a k=ab d):qQ prog w A g s o i d:=
 Rd.fQ (P:=λi=>qQ prog w A g s o i d) ri λt=>by
  cases a with
  |tuple xs=>
   exact bind.on e λj e1 e=>ro.kG.elim λad q=>q.elim λitems q=>(q.2.2.zY e).elim λv hv=>q.1▸have p:=yO (q.2.2.bS▸e1)
    ⟨"tuple",_,aiC.lookup,(IsTuple.le l q.2.1).typeIs,akM (IsTuple.le l q.2.1) (yz p.1 p.2).1 (yz p.1 p.2).2 p.1 hv.1<|.fZ l hv.2⟩
  |list xs=>
   exact bind.on e λj e1 e=>ro.elim λad q=>q.elim λitems q=>(q.2.2.zY e).elim λv hv=>q.1▸have p:=yO (q.2.2.bS▸e1)
    ⟨"list",_,Am.lookup,q.2.1.typeIs,acW q.2.1 p.2 p.1 hv.1<|.fZ l hv.2⟩
  |str x=>
   exact bind.on e λj e1 e=>map.on e λc e2 e=>e▸Rd.kJ (P:=λo=>qQ prog w A g s o _ _) ro λu=>have p:=yO e1
    ⟨"str",_,aiD.lookup,R5 _ _ _,SB.getItem (VU<|yz p.1 p.2) (akQ (LJ p.1).1 (LJ p.1).2)<|by
     rw[show Txt.item x k=⟨#[c]⟩ by unfold Txt.item Txt.charAt;rw[p.1];show(⟨#[(x.cps[j]?).getD 0]⟩:aq)=_;rw[e2];rfl]
     exact .eN _ l (Rd.str _ (Vv (Rd.strOk ro) e2))⟩
  |_=>exact cO e
theorem GL{k:V}(l:Le g s.heap)(ro:Vw g s.heap o a)(ri:Rd g i k)(e:Cr a k=ab d):qQ prog w A g s o i d:=by
 cases k with
 |int k=>exact abQ l ro ri e|bool b=>
  exact bind.on e λxs e1 e=>(ro.ah e1).elim λad q=>q.elim λitems q=>(q.2.2.zY e).elim λv hv=>q.1▸ri.uM▸
   ⟨"list",_,Am.lookup,q.2.1.typeIs,acX q.2.1 hv.1<|.fZ l hv.2⟩
 |_=>exact cO e
end
theorem NV{K:Type}[DecidableEq K]{V':Type}{R:aB->V'->Prop}{kv:af (K×aB)}{bc:af (K×V')}(h:a7 (λp q=>p.1=q.1/\R p.2 q.2) kv bc)(k:K):
  (Al kv k=aw/\bc.lookup k=aw)\/∃v d,Al kv k=ab v/\bc.lookup k=ab d/\R v d:=by
 induction h with
 |nil=>exact .inl ⟨rfl,rfl⟩|@cons p q xs ys h1 _ ih=>
  unfold Al at ih ⊢
  rw[List.find?_cons,DQ,h1.1]
  by_cases hk:q.1=k
  ·rw[gQ hk,beq_iff_eq.mpr hk.symm];exact .inr ⟨p.2,q.2,rfl,rfl,h1.2⟩
  ·rw[uR hk,beq_eq_false_iff_ne.mpr<|Ne.symm hk];exact ih
theorem Uz{K:Type}[DecidableEq K]{V':Type}{R:aB->V'->Prop}{kv:af (K×aB)}{bc:af (K×V')}(h:a7 (λp q=>p.1=q.1/\R p.2 q.2) kv bc){k:K}{d:V'}(e:bc.lookup k=ab d):∃v,Al kv k=ab v/\R v d:=
 (NV h k).elim (λq=>gK e q.2) λq=>q.imp λv q=>q.elim λd' q=>⟨q.1,(cq (q.2.1.symm.trans e):d'=d)▸q.2.2⟩
section
variable{g:aI}{s:aZ}{rs:Rs}{as:af Ad}{i v:aB}{k d:V}{l:aP}{j:ai}{a:Ad}{r:bP}{m b:MV}
theorem OF{K:Type}[DecidableEq K]{knd:xG prog w K}{bc:af (K×V)}{kv:af (K×aB)}{x:K}{b:aP}(l:Le g s.heap)(hd:s.heap.DictOf knd b kv)(r:a7 (λp q=>p.1=q.1/\Rd g p.2 q.2) kv bc)(hk:knd.is x i=ae)(e:bc.lookup x=ab d):qQ prog w A g s (.ref b) i d:=
 (Uz r e).elim λv q=>⟨"dict",_,ahZ.lookup,hd.mapOf.typeIs,ahI hk hd.mapOf q.1<|.eN _ l q.2⟩
theorem OE{b:aP}{bc:af (aq×V)}{x:aq}(l:Le g s.heap)(hd:om prog w g s.heap b bc)(ri:Rd g i (.str x))(e:bc.lookup x=ab d):qQ prog w A g s (.ref b) i d:=
 hd.elim λkv q=>Rd.kJ (P:=λi=>qQ prog w A g s _ i d) ri λt=>OF (knd:=iT prog w) l q.1 q.2 (GQ x t) e
theorem abR{b:aP}{bc:af (aH×V)}{x:aH}(l:Le g s.heap)(hd:xy prog w g s.heap b bc)(ri:Rd g i (.int x))(e:bc.lookup x=ab d):qQ prog w A g s (.ref b) i d:=
 hd.elim λkv q=>Rd.fQ (P:=λi=>qQ prog w A g s _ i d) ri λt=>OF (knd:=IU prog w) l q.1 q.2 (intKind_is prog w x t) e
theorem Vw.yU{h:aI}{x:aq}(r:Rd g i k)(e:lE k=ab x):Rd g i (.str x):=s5 e▸r
theorem OD{h₀ h₁:aI->aI}(l:Le g s.heap)(hr:ip prog w g s.heap a r)(ri:Rd g i k)(e:zr r j k=ab m)(hj:(∃v l t s,r=.st v l t s)->as[j]?=ab a):
  qR (prog:=prog) (w:=w) A g s (.ref a.1) i (λg' h' v=>TR prog w g' h' (h₀ h') (h₁ h') as m v):=by
 cases r with
 |cA=>exact cO e|ah xs=>exact map.on e λd hd e=>e▸GL l (fx.vw hr rfl) ri hd|fb bc=>exact bind.on e λx e1 e=>map.on e λd hd e=>e▸OE l hr (Vw.yU (h:=g) ri e1) hd|jg bc=>exact bind.on e λx e1 e=>map.on e λd hd e=>e▸abR l hr (show Rd g i (.int x) from qu e1▸ri) hd|st vs lg cW b8=>
  exact bind.on e λx e1 e=>hr.1.elim λfL q=>q.elim λfA hd=>have ha:=hj ⟨vs,lg,cW,b8,rfl⟩
   Rd.kJ (P:=λi=>qR (prog:=prog) (w:=w) A g s (.ref a.1) i λg' h' v=>TR prog w g' h' (h₀ h') (h₁ h') as m v) (Vw.yU (h:=g) ri e1) λt=>by
    have key:∀y v m',x=y->Al (La a cW b8 fL fA) y=ab v->(∀g' h',TR prog w g s.heap (h₀ h') (h₁ h') as m' v)->ab m'=ab m->qR (prog:=prog) (w:=w) A g s (.ref a.1) (.str x t) (λg' h' v=>TR prog w g' h' (h₀ h') (h₁ h') as m v):=λy v m' q hv hp e=>
     ⟨"dict",_,ahZ.lookup,hd.mapOf.typeIs,ahI (knd:=iT prog w) (GQ x t) hd.mapOf (q▸hv)<|.eN _ l (cq e▸hp g s.heap)⟩
    unfold Ld at e
    split at e
    ·exact key _ _ (.vars j) ‹_› rfl (λ_ _=>⟨a,ha,rfl⟩) e
    split at e
    ·exact key _ _ (.bM j) ‹_› rfl (λ_ _=>⟨a,ha,rfl⟩) e
    split at e
    ·exact key _ _ (.val<|.int cW) ‹_› rfl (λ_ _=>Rd.int _ _) e
    split at e
    ·exact key _ _ (.val<|.int b8) ‹_› rfl (λ_ _=>Rd.int _ _) e
    ·exact cO e
theorem Z0{r:bP}{x:MV}(e:zr r j k=ab x):r≠.cA:=λq=>cO (q▸e)
theorem MT{h₀ h₁:aI}(rel:ca prog w g s.heap rs as)(t:TR prog w g s.heap h₀ h₁ as b v)(ri:Rd g i k)(e:e9 b k rs=ab m):qR (prog:=prog) (w:=w) A g s v i (λg' h' r=>TR prog w g' h' s.heap h' as m r):=by
 cases b with
 |val d=>exact map.on e λx hx e=>e▸GL rel.le (Vw.M0 rel.le t) ri hx|own r=>
  exact t.2.elim λa q=>q.1▸by
   have go:∀z,zr r 0 k=ab m->FX r=z->z=ae->qR (prog:=prog) (w:=w) A g s (.ref a.1) i (λg' h' r=>TR prog w g' h' s.heap h' as m r):=λz e hz q'=>
    OD (j:=0) (h₀:=λ_=>s.heap) (h₁:=λx=>x) rel.le q.2.1 ri e λ⟨_,_,_,_,w⟩=>q6 ((w▸hz:FX (.st ..)=z).trans q')
   cases r with
   |st _ _ _ _=>exact cO e|_=>exact go _ e rfl rfl
 |ref j=>exact t.elim λa q=>q.2▸OD (h₀:=λ_=>s.heap) (h₁:=λx=>x) rel.le (rel.root j _ a (qD rfl (Z0 e)) q.1) ri e λ_=>q.1|vars j=>exact bind.on e λp e1 e=>bind.on e λx e2 e=>map.on e λd hd e=>e▸t.elim λa q=>q.2▸OE rel.le (rel.st q.1 e1).1 (Vw.yU (h:=g) ri e2) hd|bM j=>exact cO e
end
theorem V9(items:cT aB)(lo hi:aD aH):(slicePick items lo hi aw).toList=fj items.toList lo hi:=ay Array.toList (slicePick_plain items lo hi)
theorem a7.fj{α β:Type}{R:α->β->Prop}{xs:af α}{ys:af β}(a:a7 R xs ys)(lo hi:aD aH):a7 R (fj xs lo hi) (fj ys lo hi):=by
 unfold Mine.fj
 rw[a.length]
 exact(a.drop _).take _
theorem Lr{E:aB->aZ->Prop}{s:aZ}{v:aB}{i:aD aH}(h:pq v i){Q:aD aH->aZ->Prop}(hQ:Q i s):aT (bH prog w) A (akm v) Q E s:=by
 cases h with
 |none=>exact aiR hQ|int i t=>exact akv hQ
theorem QG(n:ai)(i:aH):(if i<0 then max (i+n) 0 else min i n)=((clipAt n i:ai):aH):=by
 rw[Su]
 by_cases h:i<0
 ·rw[a9 h,a9 h,Int.min_eq_left (qZ (ajE (vf h) _)<|AF (Int.zero_add _)),Int.max_comm]
 ·rw[br h,br h,Int.max_eq_right<|Int.le_min.mpr ⟨DV.mp h,xQ n⟩]
theorem aho(lo hi:aD aH)(n:ai):aiP lo hi 1 (n:aH)=(((lo.elim 0 (clipAt n):ai):aH),((hi.elim n (clipAt n):ai):aH)):=
 Prod.ext (lo.casesOn rfl (QG n)) (hi.casesOn rfl (QG n))
theorem YO(a b:ai):SO (a:aH) (b:aH) 1=b-a:=by
 show(if(a:aH)<b then((b:aH)-a-1)/1+1 else 0).toNat=b-a
 by_cases h:(a:aH)<b
 ·rw[a9 h,Int.ediv_one,Int.sub_add_cancel,Int.toNat_sub]
 ·rw[br h];exact(SY<|nK.mp λq=>h (oA.mpr q)).symm
theorem V6{E:aB->aZ->Prop}{s:aZ}{sl:aP}{vl vu:aB}{lo hi:aD aH}{n:ai}{Q:aH×aH×ai->aZ->Prop}(hs:s.heap.IsSliceOf sl vl vu .none)(pl:pq vl lo)(pu:pq vu hi)
  (h:Q (((lo.elim 0 (clipAt n):ai):aH),1,hi.elim n (clipAt n)-lo.elim 0 (clipAt n)) s):aT (bH prog w) A (aiO (.ref sl)<|pure (n:aH)) Q E s:=by
 obtain⟨os,G7,hcs,w8⟩:=id hs
 unfold aiO akn
 refine aY (aY<|xB G7 w8 (x:=vl) rfl (aY<|xB G7 w8 (x:=vu) rfl (aY<|xB G7 w8 (x:=.none) rfl (b7 ?_))))
 refine aY (aiR ?_)
 show aT _ _ (if((1:aH)==0)=ae then _ else _) _ _ s
 rw[br aa]
 refine aY (Lr pl<|aY (Lr pu<|aY (b7 ?_)))
 show aT _ _ (match aiP lo hi 1 (n:aH) with|(lo,hi)=>pure (lo,(1:aH),SO lo hi 1)) _ _ s
 rw[aho]
 show aT _ _ (pure (_,(1:aH),SO _ _ 1)) _ _ s
 rw[YO]
 exact b7 h
theorem YR(xs:cT aB)(a k:ai):((jE k).filterMap λ(j:ai)=>xs[((a:aH)+(j:aH)*1).toNat]?).toArray=((xs.toList.drop a).take k).toArray:=by
 rw[show(λ(j:ai)=>xs[((a:aH)+(j:aH)*1).toNat]?)=(λx=>xs[x]?) ∘ λx=>a+x from funext λj=>ay (xs[·]?) (by rw[Int.mul_one];rfl),<-List.filterMap_map,pick_run]
theorem T8{α:Type}{xs:af α}{n a k:ai}(hn:xs.length=n)(h:((a:aH)==0&&(1:aH)==1&&k==n)=ae):(xs.drop a).take k=xs:=by
 have h1:=dc.mp h
 have h2:a=0:=Int.ofNat_eq_zero.mp (beq_iff_eq.mp (dc.mp h1.1).1)
 rw[h2,beq_iff_eq.mp h1.2,<-hn]
 exact Jo
theorem acV{g:aI}{s:aZ}{t sl:aP}{items:cT aB}{ds:af V}{vl vu:aB}{lo hi:aD aH}(l:Le g s.heap)(ht:g.IsTuple t items)(r:a7 (Rd g) items.toList ds)
  (hs:s.heap.IsSliceOf sl vl vu .none)(pl:pq vl lo)(pu:pq vu hi)(hsz:items.size<=jm):
  aT (bH prog w) A (sG (.ref t)<|.ref sl) (d9 g s λg' _ v=>Rd g' v<|.tuple (fj ds lo hi)) No s:=by
 have hTs:s.TypeIs (.ref sl) "slice":=hs.imp λ_ q=>⟨q.1,q.2.1⟩
 have uu:=IsTuple.le l ht
 have r':a7 (Rd g) ((items.toList.drop<|lo.elim 0 (clipAt items.size)).take<|hi.elim items.size (clipAt items.size)-lo.elim 0 (clipAt items.size)) (fj ds lo hi):=r.fj lo hi
 have hw:∀a k,a=lo.elim 0 (clipAt items.size)->k=hi.elim items.size (clipAt items.size)-a->((a:aH)==0&&(1:aH)==1&&k==items.size)=ae->fj ds lo hi=ds:=λa k ha hk hw=>by
  have:fj ds lo hi=(ds.drop a).take k:=by unfold Mine.fj;rw[ha] at hk;rw[<-r.bS,hk,ha]
  exact this.trans (T8 r.bS.symm hw)
 unfold sG
 try with_reducible refine kB ?_
 first|refine aY (b7 ?_)|skip
 refine aY (RX uu.typeIs aa ?_)
 refine aY (Dq (name:=fU "__getitem__") uu.typeIs aiQ
  (xC aiQ uu.typeIs akO ?_ (akT _ _)))
 show aT _ _ (akl (.ref t)>>=_) _ _ s
 refine aY (akq uu ?_)
 refine aY (ahx hTs ?_)
 rw[a9 aa]
 refine aY (V6 hs pl pu ?_)
 generalize lo.elim 0 (clipAt items.size)=a at r' hw ⊢
 have Cu:=λ(A:fJ) q (e:q=hi.elim items.size (clipAt items.size)-a)=>MP (prog:=prog) (w:=w) (A:=A) l (e▸r') (aj (Tc ..)<|aj (aj (bA Te)<|Jg ..) hsz)
 show aT _ _ (if((a:aH)==0&&(1:aH)==1&&(hi.elim items.size (clipAt items.size)-a)==items.size)=ae then _ else _) _ _ s
 by_cases uq:((a:aH)==0&&(1:aH)==1&&(hi.elim items.size (clipAt items.size)-a)==items.size)=ae
 ·rw[a9 uq,hw _ _ rfl rfl uq]
  have Pc:d9 g s (λg' _ v=>Rd g' v<|.tuple ds) (.ref t) s:=.fZ l (Rd.tuple ht r)
  refine aY (aY<|ahx uu.typeIs (b7 ?_))
  rw[a9 aa]
  first
   |exact aY (Dp<|aY (b7<|b7 ⟨_,rfl,b7 Pc⟩))
   |exact aY (Dp<|b7 ⟨_,rfl,b7 Pc⟩)
 ·rw[br uq,YR]
  generalize hq:hi.elim items.size (clipAt items.size)-a=k
  first
   |exact aY (m:=IT (.type "tuple")<|.seq ((items.toList.drop a).take k).toArray) (fq (Cu _ k hq.symm) (λv s' hv=>b7 ⟨_,rfl,b7 hv⟩) λ_ _ z=>z.elim)
   |exact aY (m:=IT (.type "tuple")<|.seq ((items.toList.drop a).take k).toArray) (fq (Cu _ k hq.symm) (λv s' hv=>aY<|b7 (b7 ⟨_,rfl,b7 hv⟩)) λ_ _ z=>z.elim)
   |exact aY (aY (m:=IT (.type "tuple")<|.seq ((items.toList.drop a).take k).toArray)<|fq (Cu _ k hq.symm) (λv s' hv=>b7<|b7 ⟨_,rfl,b7 hv⟩) λ_ _ z=>z.elim)
   |exact aY (aY (m:=IT (.type "tuple")<|.seq ((items.toList.drop a).take k).toArray)<|fq (Cu _ k hq.symm) (λv s' hv=>b7 ⟨_,rfl,b7 hv⟩) λ_ _ z=>z.elim)
end
section
variable{prog:cC}{w:dv}{A:fJ}
theorem QW{g:aI}{v:aB}{d:V}{b:aD aH}(r:Rd g v d)(e:Ic d=ab b):pq v b:=by
 cases d with
 |none=>exact cq e▸r.wJ▸.none|int i=>exact cq e▸Rd.fQ (P:=λv=>pq v<|ab i) r λt=>.int i t|_=>exact cO e
theorem MJ{v:aB}{b:aD aH}(h:pq v b):∃p:aD (aH×mR),v=partValue p/\b=p.map (·.1):=by
 cases h with
 |none=>exact⟨aw,rfl,rfl⟩|int i t=>exact⟨ab (i,t),rfl,rfl⟩
theorem K5(lo hi:aD aH)(n:ai):xI lo hi 1 n=(jE<|hi.elim n (clipAt n)-lo.elim 0 (clipAt n)).map (lo.elim 0 (clipAt n)+·):=by
 have key:∀i:aH,max 0 (min (if i<0 then i+n else i) n)=((clipAt n i:ai):aH):=λi=>(Su n i).symm
 unfold xI
 rw[<-sliceRange_one]
 cases lo<;>cases hi<;>simp[key]
theorem Vx(x:aq)(lo hi:aD aH):(xI lo hi 1 x.length).filterMap (x.cps[·]?)=fj x.cps.toList lo hi:=by rw[K5,pick_run];rfl
theorem aaA{α:Type}{xs:af α}{lo hi:aD aH}{x:α}(h:x∈fj xs lo hi):x∈xs:=aji (S9 h)
theorem Vt{x:aq}(h:fc x=ae)(lo hi:aD aH):fc ⟨(fj x.cps.toList lo hi).toArray⟩=ae:=s6.mpr λc hc=>s6.mp h c (aaA hc)
theorem Wa{α:Type}(xs:af α)(lo hi:aD aH):(fj xs lo hi).length<=xs.length:=aj (Tc ..) (aj (bA Te)<|Jg ..)
theorem ae1(n:ai)(i:aH):clipAt n i<=n:=ve.mp ((Su n i).symm▸Int.max_le.mpr ⟨xQ n,Int.min_le_right ..⟩)
theorem T7{x:aq}{lo hi:aD aH}(h:(xI lo hi 1 x.length).length=x.length):(⟨(fj x.cps.toList lo hi).toArray⟩:aq)=x:=by
 rw[K5,iF,Td] at h
 have q:hi.elim x.length (clipAt x.length)<=x.length:=hi.casesOn (aF _) (ae1 _)
 have e:fj x.cps.toList lo hi=x.cps.toList:=by
  show(x.cps.toList.drop<|lo.elim 0 (clipAt x.length)).take (hi.elim x.length (clipAt x.length)-lo.elim 0 (clipAt x.length))=_
  rw[h]
  generalize lo.elim 0 (clipAt x.length)=a at h
  cases a with
  |zero=>exact Jo|succ a=>
   have z:x.cps.toList=[]:=ajw (Nat.le_zero.mp<|Nat.le_of_not_lt λp=>Ax x.length (Jj (lB (bA h.symm)<|Nat.sub_lt (Jj p<|aj (bA h.symm) (Jg ..)) (sN a)) q))
   rw[z,Tn,List.take_nil]
 rw[e]
section
variable{g:aI}{s:aZ}{as:af Ad}{v vl vu:aB}{sl:aP}{d:V}{lo hi:aD aH}{m:MV}
theorem ZB(l:Le g s.heap)(bU:jz s.heap)(ro:Vw g s.heap v d)(hs:s.heap.IsSliceOf sl vl vu .none)(pl:pq vl lo)(pu:pq vu hi)(e:tj d lo hi=ab m):qR (prog:=prog) (w:=w) A g s v (.ref sl) (Rt prog w s as m):=by
 cases d with
 |tuple xs=>
  exact(fi e).2▸(Rd.kG ro).elim λa q=>q.elim λitems q=>q.1▸⟨"tuple",_,aiC.lookup,(IsTuple.le l q.2.1).typeIs,acV l q.2.1 q.2.2 hs pl pu<|q.2.2.uC (fi e).1⟩
 |list xs=>
  exact(fi e).2▸ro.elim λa q=>q.elim λitems q=>q.1▸⟨"list",_,Am.lookup,q.2.1.typeIs,ahJ q.2.1 hs pl pu .none (λz=>nomatch z) (BK l bU<|V9 items lo hi▸q.2.2.fj lo hi)<|q.2.2.uC (fi e).1⟩
 |str x=>
  exact(fi e).2▸(MJ pl).elim λp ep=>(MJ pu).elim λq eq=>Rd.kJ (P:=λv=>qR (prog:=prog) (w:=w) A g s v (.ref sl)<|Rt prog w s as (.val<|.str ⟨(fj x.cps.toList lo hi).toArray⟩)) ro λt=>by
   have nq:s.heap.IsSlice sl p q aw:=by rw[ep.1,eq.1] at hs;exact hs
   refine⟨"str",_,aiD.lookup,R5 _ _ _,wpAny_getItem_str_slice (l:=p) (u:=q) (st:=aw) nq rfl ?_⟩
   rw[ep.2,eq.2]
   show(if(ae&&(xI (p.map (·.1)) (q.map (·.1)) 1 x.length).length==x.length)=ae then Made.val (.str x t) else .str ⟨((xI (p.map (·.1)) (q.map (·.1)) 1 x.length).filterMap (x.cps[·]?)).toArray⟩).post _ s
   by_cases hw:(ae&&(xI (p.map (·.1)) (q.map (·.1)) 1 x.length).length==x.length)=ae
   ·rw[a9 hw,T7<|beq_iff_eq.mp hw]
    exact .fZ l (Rd.str t<|Rd.strOk ro)
   ·rw[br hw,Vx]
    exact⟨aj (Wa ..) (o3 (fi e).1),.eN _ l<|Rd.str _ (Vt (Rd.strOk ro) _ _)⟩
 |_=>exact cO e
theorem a7.YT{α β:Type}{R:α->β->Prop}{xs:af α}{ys:af β}(a:a7 R xs ys)(ix:af ai):a7 R (ix.filterMap (xs[·]?)) (ix.filterMap (ys[·]?)):=by
 induction ix with
 |nil=>exact .nil|cons i ix ih=>
  rw[xP,xP]
  cases h:xs[i]? with
  |none=>rw[Th<|a.length▸List.getElem?_eq_none_iff.mp h];exact ih|some x=>exact(a.PB h).elim λy q=>by rw[q.1];exact .cons q.2 ih
theorem ZA{v4:aB}{xs:af V}{k:aH}{t4:mR}(l:Le g s.heap)(bU:jz s.heap)(ro:Vw g s.heap v (.list xs))(hs:s.heap.IsSliceOf sl vl .none v4)(pl:pq vl (ab k))(h4:v4=.int 4 t4)(hk:0<=k)(hz:xs.length<=100000):
  qR (prog:=prog) (w:=w) A g s v (.ref sl) (Rt prog w s as (.own<|.ah (kr k.toNat xs))):=
 ro.elim λa q=>q.elim λitems q=>q.1▸⟨"list",_,Am.lookup,q.2.1.typeIs,ahJ q.2.1 (h4▸hs) pl .none (.int 4 t4) (λz=>nomatch z) (BK l bU (by
  have h:=q.2.2.YT (GJ k.toNat items.size)
  unfold slicePick kr
  rw[<-q.2.2.bS]
  unfold GJ at h ⊢
  rw[vd hk] at h ⊢
  rw[show(λx=>items[x]?)=λx=>items.toList[x]? from funext λx=>JA.symm]
  exact h))<|q.2.2.uC hz⟩
end
end
theorem ae3(ch:Char):ch.toNat<0x110000:=ch.valid.elim (λh=>j1 h aa) And.right
theorem NK{l:af Char}{c:ai}(h:c∈l.map q0):c<0x110000:=(eE.mp h).elim λch q=>q.2▸ae3 ch
theorem nO(x:String):fc (fU x)=ae:=s6.mpr λc hc=>NK (l:=x.toList) (by rw[Str.ofString_eq_toList] at hc;exact hc)
theorem uf{c:Prop}[Decidable c]{x y:af ai}(hx:∀d∈x,d<0x110000)(hy:∀d∈y,d<0x110000):∀d∈(if c then x else y),d<0x110000:=by
 by_cases h:c
 ·rw[a9 h];exact hx
 ·rw[br h];exact hy
theorem xk{c:ai}{x:af ai}(h:c<0x110000)(hx:∀d∈x,d<0x110000):∀d∈c::x,d<0x110000:=λd hd=>(dX.mp hd).elim (·▸h) (hx d)
theorem FY:∀d∈([]:af ai),d<0x110000:=λ_ h=>(gA h).elim
theorem Hs{a b n:ai}{l:af Char}(ha:a<256)(hb:b<256):∀d∈[a,b]++(eW n 48++l.map q0),d<0x110000:=
 show ∀d∈a::b::(eW n 48++l.map q0),d<0x110000 from xk (j1 ha aa) (xk (j1 hb aa) λd hd=>(iX.mp hd).elim (λh=>(S8.mp h).2▸by decide) NK)
theorem Xj{q c:ai}(hc:c<0x110000):∀d∈Jc q c,d<0x110000:=by
 unfold Jc
 exact uf (xk aa<|xk hc FY) (uf aa<|uf aa (uf aa<|uf (xk hc FY) (uf (Hs aa aa)<|uf (Hs aa aa) (Hs aa aa))))
theorem ahc{x y:cT ai}(hx:∀d∈x.toList,d<0x110000)(hy:∀d∈y.toList,d<0x110000):∀d∈(x++y).toList,d<0x110000:=DY▸λd hd=>(iX.mp hd).elim (hx d) (hy d)
theorem Xi(q:ai)(l:af ai):∀(acc:cT ai),(∀c∈l,c<0x110000)->(∀c∈acc.toList,c<0x110000)->∀c∈(l.foldl (λnX c=>nX++(Jc q c).toArray) acc).toList,c<0x110000:=by
 induction l with
 |nil=>exactλacc _ h=>h|cons c r ih=>exactλacc hl h=>ih _ (λd hd=>hl d<|.tail _ hd) (ahc h<|Xj (hl c<|.head _))
theorem LY(x:aq):An x<0x110000:=by unfold An;cases(x.cps.contains 39&&!x.cps.contains 34)<;>decide
theorem Vu{x:aq}(h:fc x=ae):fc (IS x)=ae:=
 s6.mpr λc hc=>by
  unfold IS at hc
  rw[Jy,<-ajL] at hc
  exact(iX.mp hc).elim (Xi _ _ _ (s6.mp h) (xk (LY x) FY) c) λk=>cU.mp k▸LY x
theorem Vr(ts:af aq):∀(k:ai)(acc:aq),(∀t∈ts,fc t=ae)->fc acc=ae->fc (textFrom k acc ts)=ae:=by
 induction ts with
 |nil=>exactλ_ _ _ h=>h|cons t r ih=>exactλk acc ht h=>ih (k+1) _ (λu hu=>ht u<|.tail _ hu) (ry (ry h<|nO _)<|ht t (.head _))
theorem ER{sep:aq}(hs:fc sep=ae):∀(ts:af aq),(∀t∈ts,fc t=ae)->fc (mS sep ts)=ae
 |[],_=>by show fc Str.empty=ae;decide+kernel
 |[x],h=>h x (.head _)|x::y::r,h=>ry (ry (h x<|.head _) hs) (ER hs (y::r) λt ht=>h t<|.tail _ ht)
mutual
theorem K4:∀d:PyData,d.canLay0=ae->fc d.shown=ae
 | .none,_=>nO "None"| .bool b,_=>by
  cases b
  ·exact nO "False"
  ·exact nO "True"
 | .int i,_=>nO (toString i)| .str x,h=>Vu h| .list xs,h=>ry (Vr _ _ _ (EP xs h)<|nO "[") (nO "]")| .tuple xs,h=>ry (ry (nO "(")<|ER (nO ", ") _ (EP xs h)) (nO _)
 | .dict _,h=>q6 h
theorem EP:∀ds:af PyData,DF ds=ae->∀t∈aiq ds,fc t=ae
 |[],_=>λ_ h=>(gA h).elim|d::ds,h=>λt ht=>(dX.mp ht).elim (λe=>e▸K4 d (dc.mp h).1) (EP ds (dc.mp h).2 t)
end
section V1
open PyProof.Rows
theorem tX{a b:aq}:nj a b=ae↔a.cps.toList<=b.cps.toList:=by
 unfold nj
 rw[ltCps_eq,pF,decide_eq_false_iff_not,List.not_lt]
theorem Og{a b c:aq}(h:nj a b=ae)(k:nj b c=ae):nj a c=ae:=tX.mpr (List.le_trans (tX.mp h)<|tX.mp k)
theorem aa2{a b:aq}(h:nj a b=ae)(k:nj b a=ae):a=b:=ay Str.mk (DX.mp<|List.le_antisymm (tX.mp h) (tX.mp k))
theorem Xd(l:af aq):∀p:aq,risingS p l=ae->(p::l).Pairwise λa b=>nj a b=ae:=by
 induction l with
 |nil=>exactλp _=>.cons (λ_ h=>(gA h).elim) .nil|cons x r ih=>
  exactλp h=>
   have h:=dc.mp h
   have k:=ih x h.2
   .cons (λz hz=>(dX.mp hz).elim (λe=>e▸h.1) λhz=>Og h.1<|(List.pairwise_cons.mp k).1 z hz) k
theorem V3{l m:af aq}(p:l.Perm m)(h:sortedS l=ae):l=ti m:=
 (p.trans (ajh m nj).symm).eq_of_pairwise (λa b _ _=>aa2) (by cases l with|nil=>exact .nil|cons x r=>exact Xd r x h)
  (List.pairwise_mergeSort (le:=nj) (λa b c=>Og) (λa b=>q5.mpr<|(List.le_total ..).imp tX.mpr tX.mpr) m)
end V1
section
variable{prog:cC}{w:dv}{A:fJ}
noncomputable def CW(b:Bi)(v:aB):eD aB:=
 match b with
 | .len=>call (.builtin "len") [v]| .list=>call (.type "list") [v]| .tuple=>call (.type "tuple") [v]| .n5=>call (.builtin "isinstance") [v,.type "tuple"]| .uh=>call (.builtin "isinstance") [v,.type "int"]| .qq=>call (.builtin "isinstance") [v,.type "str"]| .sum=>call (.builtin "sum") [v]| .rA=>call (.builtin "sorted") [v]| .repr=>call (.builtin "repr") [v]| .str=>call (.type "str") [v]
section
variable{g:aI}{s:aZ}{as:af Ad}{b:Bi}{v:aB}{d:V}{m:MV}{n:ai}
theorem ab0{vs:af aB}{ds:af V}(h:a7 (Rd g) vs ds):∀{ns:af aH},zo ds=ab ns->∃ps:af (aH×mR),vs=ps.map (λp=>.int p.1 p.2)/\ps.map (·.1)=ns:=by
 induction h with
 |nil=>exactλe=>⟨[],rfl,cq e⟩
 |cons h1 _ ih=>exactλe=>bind.on e λi e1 e=>map.on e λms e2 e=>(ih e2).elim λps q=>(show Rd g _ (.int i) from qu e1▸h1).wY.elim λt qt=>⟨(i,t)::ps,congr (ay Ju qt) q.1,(ay (i::·) q.2).trans e⟩
open PyProof.Rows in
theorem Bm{vs:af aB}{ds:af V}(h:a7 (Rd g) vs ds):∀{ys:af aq},sZ ds=ab ys->StrsAre vs ys/\∀y∈ys,fc y=ae:=by
 induction h with
 |nil=>exactλe=>cq e▸⟨.nil,λ_ h=>(gA h).elim⟩|@cons v d vs ds h1 _ ih=>
  exactλe=>bind.on e λx e1 e=>map.on e λms e2 e=>have r:=show Rd g v (.str x) from s5 e1▸h1
   e▸r.yr.elim λt q=>⟨q▸.cons x t (ih e2).1,λy hy=>(dX.mp hy).elim (λq=>q▸r.strOk)<|(ih e2).2 y⟩
open PyProof.Rows in
theorem Xm{vs:af aB}{ys:af aq}(h:StrsAre vs ys):(∀y∈ys,fc y=ae)->a7 (Rd g) vs (ys.map .str):=by
 induction h with
 |nil=>exactλ_=>.nil|cons y t _ ih=>exactλk=>.cons (Rd.str t<|k y (.head _)) (ih λz hz=>k z<|.tail _ hz)
theorem ZI(l:Le g s.heap)(r:Vw g s.heap v d)(e:Oa d=ab n)(hn:n<=100000):aT (bH prog w) A (call (.builtin "len") [v]) (d9 g s λg' _ u=>Rd g' u<|.int n) No s:=by
 cases d with
 |list xs=>
  exact r.elim λa q=>q.elim λi q=>have e:=q.2.2.bS.trans (cq e)
   q.1▸e▸Calls.call_len_list q.2.1 (rB<|e▸hn) (.eN _ l<|Rd.int _ _)
 |tuple xs=>
  exact(Rd.kG r).elim λa q=>q.elim λi q=>have e:=q.2.2.bS.trans (cq e)
   q.1▸e▸akI (IsTuple.le l q.2.1) (rB<|e▸hn) (.eN _ l<|Rd.int _ _)
 |str x=>exact cq e▸Rd.kJ (P:=λv=>aT _ _ (call (.builtin "len") [v]) _ _ _) r λt=>PySem.P.len_str (Tq.mpr<|rB (cq e▸hn)) (.eN _ l<|Rd.int _ _)|_=>exact cO e
theorem MS{a:aP}{T:String}{items:cT aB}{xs:af V}(l:Le g s.heap)(bU:jz s.heap)(hT:T="list"\/T="tuple")(h1:∃o,s.heap.get? a=ab o/\o.cls=.type T/\∃n,o.data=.seq items n)(h2:a7 (Rd g) items.toList xs)(hz:xs.length<=100000):
  aT (bH prog w) A (call (.type "list") [.ref a]) (d9 g s<|Rt prog w s as (.own<|.ah xs)) No s:=
 h1.elim λo q=>q.2.2.elim λn hd=>call_list_seq a hT q.1 q.2.1 hd (λh' c' k hq=>.fm s.toks l k<|B0 l k (fN _) bU.qA hq h2) (h2.uC hz)
variable(prog w A) in
abbrev qS(g:aI)(s:aZ)(v:aB)(T:String)(c:az):Prop:=aT (bH prog w) A (call (.builtin "isinstance") [v,.type T]) (d9 g s λ_ _ u=>u=.bool c) No s
theorem FJ(l:Le g s.heap)(r:Vw g s.heap v d):qS prog w A g s v "tuple" (Cn d)/\qS prog w A g s v "int" (OM d)/\qS prog w A g s v "str" (GR d):=by
 cases d with
 |none=>exact Rd.wJ r▸⟨IsiPair.NoneType_tuple (.eN _ l rfl),IsiPair.NoneType_int (.eN _ l rfl),IsiPair.NoneType_str<|.eN _ l rfl⟩|bool b=>exact Rd.uM r▸⟨IsiPair.bool_tuple (.eN _ l rfl),IsiPair.bool_int (.fZ l rfl),IsiPair.bool_str<|.eN _ l rfl⟩|int i=>exact Rd.fQ (P:=λv=>qS prog w A g s v _ _/\qS prog w A g s v _ _/\qS prog w A g s v _ _) r λt=>⟨IsiPair.int_tuple (.eN _ l rfl),IsiPair.int_int (.fZ l rfl),IsiPair.int_str<|.eN _ l rfl⟩
 |str x=>exact Rd.kJ (P:=λv=>qS prog w A g s v _ _/\qS prog w A g s v _ _/\qS prog w A g s v _ _) r λt=>⟨IsiPair.str_tuple (.eN _ l rfl),IsiPair.str_int (.eN _ l rfl),IsiPair.str_str<|.fZ l rfl⟩
 |tuple xs=>exact(Rd.kG r).elim λa q=>q.elim λi q=>(IsTuple.le l q.2.1).elim λo h=>q.1▸⟨IsiPair.tuple_tuple h.1 h.2.1 (.fZ l rfl),IsiPair.tuple_int h.1 h.2.1 (.eN _ l rfl),IsiPair.tuple_str h.1 h.2.1<|.eN _ l rfl⟩|list xs=>exact r.elim λa q=>q.elim λi q=>q.2.1.elim λo h=>q.1▸⟨IsiPair.list_tuple h.1 h.2.1 (.eN _ l rfl),IsiPair.list_int h.1 h.2.1 (.eN _ l rfl),IsiPair.list_str h.1 h.2.1<|.eN _ l rfl⟩|dict bc=>exact(Rd.H2 r).elim
theorem d9.bool{c:az}{v:aB}{s':aZ}(x:d9 g s (λ_ _ u=>u=.bool c) v s'):d9 g s (Rt prog w s as (.val<|.bool c)) v s':=x.imp λ_=>.imp λ_=>.imp λ_=>.imp id (.imp id λ(e:v=.bool c)=>e▸Rd.bool c)
open PyProof.Rows
theorem UP{a:aP}{xs:af V}{items:cT aB}(l:Le g s.heap)(h1:s.heap.IsList a items)(h2:a7 (Rd g) items.toList xs)(hz:xs.length<=100000):aT (bH prog w) A (call (.type "tuple") [.ref a]) (d9 g s<|Rt prog w s as (.val<|.tuple xs)) No s:=
 call_tuple_list h1 (λh' k=>have k':Le s.heap (h'.push {cls:=.type "tuple",data:=.seq items}):=Le.trans k (gI _ _)
  ⟨_,_,s.toks,rfl,ES l k' (Le.none k<|fN h'),Rd.tuple (items:=items) ⟨_,(yl<|.head _).trans (lz _ rfl),rfl,0,rfl⟩<|Rd.o6 (my<|l.trans k') h2⟩) (h2.uC hz)
theorem Zy{xs:af V}{ns:af aH}(ok:Ok A n)(l:Le g s.heap)(r:Vw g s.heap v (.list xs))(e:zo xs=ab ns):aT (bH prog w) A (call (.builtin "sum") [v]) (d9 g s<|Rt prog w s as (.val<|.int ns.sum)) No s:=
 r.elim λa q=>q.elim λitems q=>(ab0 q.2.2 e).elim λps p=>
  have z:preSum (numAt ps.toArray) ps.toArray.size=ns.sum:=(preSum_eq ps.toArray _).trans (ay List.sum<|(DN<|bA (iF _)).trans p.2)
  q.1▸sum_intListG (xs:=ps.toArray) ok.hd ((DX.mp (p.1.trans (Array.toList_map.symm)):items=intItems ps.toArray)▸q.2.1) λh' tk t' k=>d9.fm tk l k (show Rd g (.int _ t') (.int ns.sum) from z.symm▸Rd.int _ t')
theorem Zz{xs:af V}{ys:af aq}(l:Le g s.heap)(bU:jz s.heap)(r:Vw g s.heap v (.list xs))(hz:xs.length<64)(e:sZ xs=ab ys):aT (bH prog w) A (call (.builtin "sorted") [v]) (d9 g s<|Rt prog w s as (.own<|.ah ((ti ys).map .str))) No s:=
 r.elim λa q=>q.elim λitems q=>q.1▸sorted_strs (vs:=items.toList) q.2.1 (Bm q.2.2 e).1 (lB (bA q.2.2.length) hz) λnX ss h5 h6 h7=>(sortedAll_at s.heap items.toList nX).elim λc hc=>
  .fm s.toks l (λ_ _=>sortedAll_old) (B0 l (λ_ _=>sortedAll_old) (xJ.mpr λo z=>nK.mpr (aR _)<|sI z) (λz=>bU.elim λ_ n=>n.elim λ_ n=>dk n.1.lt<|nK.mpr (aj (sO<|bA z) aa)) hc
   (V3 h6 h7▸Xm h5 λy hy=>(Bm q.2.2 e).2 y<|h6.mem_iff.mp hy))
theorem ZC(ok:Ok A n)(l:Le g s.heap)(r:Vw g s.heap v d)(hs:d.showable=ae)(hl:d.shown.length<=16777216)(hd:d.depth<=100):aT (bH prog w) A (call (.builtin "repr") [v]) (d9 g s<|Rt prog w s as (.val<|.str d.shown)) No s:=by
 have uw:=K4 d (r.QO l)
 have Pk:∀a:aP,v=.ref a->aT (bH prog w) A (call (.builtin "repr") [v]) (d9 g s<|Rt prog w s as (.val<|.str d.shown)) No s:=λa e=>e▸(r.rd l).1.elim λas k1=>
  repr_of_reads' (e▸k1) hs (λq=>q6<|q.symm.trans (PyData.hasDict_of_canLay d<|r.QO l)) ok.gs (lB (cQ (aj (aW _ _) ok.units)<|bG hd)<|Jk (aa:9000+101<9900) rfl) (λ_ _ e=>e) (λh' u tk k=>.fm tk l k<|Rd.str u uw) (aj hl aa)
 cases d with
 |none=>exact Rd.wJ r▸PySem.P.repr_of_none (.eN _ l<|Rd.str _ uw)|bool b=>exact Rd.uM r▸PySem.P.repr_of_bool (.eN _ l<|by cases b<;>exact Rd.str _ uw)|int i=>exact Rd.fQ (P:=λv=>aT _ _ (call (.builtin "repr") [v]) _ _ _) r λt=>PySem.P.repr_of_int (eV hs) (.eN _ l<|Rd.str _ uw)|str x=>exact Rd.kJ (P:=λv=>aT _ _ (call (.builtin "repr") [v]) _ _ _) r λt=>PySem.P.repr_of_str (.eN _ l<|Rd.str _ uw) (aj hl aa)|tuple xs=>exact(Rd.kG r).elim λa q=>q.elim λi q=>Pk a q.1|list xs=>exact r.elim λa q=>q.elim λi q=>Pk a q.1|dict bc=>exact(Rd.H2 r).elim
theorem ZO(ok:Ok A n)(l:Le g s.heap)(bU:jz s.heap)(r:Vw g s.heap v d)(e:gY b d=ab m):aT (bH prog w) A (CW b v) (d9 g s<|Rt prog w s as m) No s:=by
 cases b with
 |len=>exact bind.on e λk hk e=>(fi e).2▸ZI l r hk (fi e).1|list=>
  cases d with
  |list xs=>exact(fi e).2▸r.elim λa q=>q.elim λi q=>q.1▸MS l bU (.inl rfl) q.2.1 q.2.2 (fi e).1|tuple xs=>exact(fi e).2▸(Rd.kG r).elim λa q=>q.elim λi q=>q.1▸MS l bU (.inr rfl) (IsTuple.le l q.2.1) q.2.2 (fi e).1|_=>exact cO e
 |tuple=>
  cases d with
  |list xs=>exact(fi e).2▸r.elim λa q=>q.elim λi q=>q.1▸UP l q.2.1 q.2.2 (fi e).1|tuple xs=>exact cq e▸(Rd.kG r).elim λa q=>q.elim λi q=>q.1▸call_tuple_same (IsTuple.le l q.2.1) (.fZ l<|Rd.tuple q.2.1 q.2.2)|_=>exact cO e
 |n5=>exact cq e▸fq (FJ l r).1 (λ_ _=>.bool) λ_ _ z=>z|uh=>exact cq e▸fq (FJ l r).2.1 (λ_ _=>.bool) λ_ _ z=>z|qq=>exact cq e▸fq (FJ l r).2.2 (λ_ _=>.bool) λ_ _ z=>z|sum=>exact bind.on e λxs e1 e=>map.on e λns e2 e=>e▸Zy ok l (r.ah e1) e2|rA=>exact bind.on e λxs e1 e=>pE (λh:xs.length<64=>map.on ((a9 h).symm.trans e) λys e2 e=>e▸Zz l bU (r.ah e1) h e2) λh=>gK e (br h)|repr=>
  exact(eC e).2▸have h:=dc.mp (eC e).1
   have h1:=dc.mp h.1
   ZC ok l r h1.1 (eV h1.2) (eV h.2)
 |str=>exact bind.on e λi e1 e=>(eC e).2▸Rd.fQ (P:=λv=>aT _ _ (call (.type "str") [v]) _ _ _) (r.int e1) λt=>PySem.P.str_of_int (eC e).1 (.eN _ l<|Rd.str _ (nO _))
end
end
section
open AutoSeq1 (wpAny_loadPart' idx_int sub_tuple_tuple sub_list_list sub_tuple_list sub_list_tuple)
open MeetsSeq (size_erased)
theorem adu(l:aP)(d2:aD aP)(mq:cT (aD aB))(items:cT aB)(n:ai)(b:aP)(kP:cT aB)(n2:ai)(G4:¬(!items.isEmpty&&SP (items.size+kP.size))=ae)(G3:items.size<=jm)(G1:items.size+kP.size<=jm+1):
  Meets (aiN ⟨[.ref l,.ref b],[]⟩) (λ_ R s=>s.heap.get? l=ab {cls:=.type "list",dict:=aw,data:=.seq items n,slots:=#[]}/\s.heap.get? b=ab {cls:=.type "list",dict:=d2,data:=.seq kP n2,slots:=mq}/\R (.ok<|.ret uX) {s with heap:=s.heap.update l (xF λx=>x++kP),toks:=s.toks}):=
 .of_wp λprog w A R s h=>by
  obtain⟨hp,g,d,tk,os⟩:=s;obtain⟨hl,hb,h⟩:=h;have f1:=idx_int;have f2:=sub_tuple_tuple;have f3:=sub_list_list;have f4:=sub_tuple_list;have f5:=sub_list_tuple;
  have GX:(items++kP).size<=jm+1:=by rw[ajK];exact G1
  wp_walk using (IE hl rfl (hz:=G3) (_hz':=GX)),uS hl,uS hb;exact⟨_,rfl,h⟩
theorem adt(l:aP)(d2:aD aP)(mq:cT (aD aB))(items:cT aB)(n:ai)(b:aP)(kP:cT aB)(n2:ai)(G4:¬(!items.isEmpty&&SP (items.size+kP.size))=ae)(G3:items.size<=jm)(G1:items.size+kP.size<=jm+1):
  Meets (aiN ⟨[.ref l,.ref b],[]⟩) (λ_ R s=>s.heap.get? l=ab {cls:=.type "list",dict:=aw,data:=.seq items n,slots:=#[]}/\s.heap.get? b=ab {cls:=.type "tuple",dict:=d2,data:=.seq kP n2,slots:=mq}/\R (.ok<|.ret uX) {s with heap:=s.heap.update l (xF λx=>x++kP),toks:=s.toks}):=
 .of_wp λprog w A R s h=>by
  obtain⟨hp,g,d,tk,os⟩:=s;obtain⟨hl,hb,h⟩:=h;have f1:=idx_int;have f2:=sub_tuple_tuple;have f3:=sub_list_list;have f4:=sub_tuple_list;have f5:=sub_list_tuple;
  have GX:(items++kP).size<=jm+1:=by rw[ajK];exact G1
  wp_walk using (IE hl rfl (hz:=G3) (_hz':=GX)),uS hl,uS hb;exact⟨_,rfl,h⟩
section
variable{prog:cC}{w:dv}{A:fJ}
section
variable{g h h':aI}{rs cj:Rs}{as:af Ad}{i:ai}{r r':bP}{a:Ad}{b:aP}{s:aZ}{o:MV}{xs ys:af V}{f:af V->Rs}{u v:aB}{d:V}
theorem rn(rel:ca prog w g h rs as)(h1:rs[i]?=ab r)(h2:as[i]?=ab a)(hb:b∈foot a r)(sb:jD b h h')(hs:(h'.get? b).isSome=ae)
  (hf:foot a r'=foot a r)(hr:ip prog w g h' a r'):Step g h (bp rs as) g h'/\ca prog w g h' (rs.set i r') as/\(∀c∈bp (rs.set i r') as,c∈bp rs as):=
 have Pm:b∈bp rs as:=lQ h1 h2 hb
 have f7:∀c,h'.get? c=aw->h.get? c=aw:=λc e=>pE (λq:c=b=>qg (q▸hs) e) λq=>(sb.2 c q).symm.trans e
 have st:∀F:af aP,b∈F->Step g h F g h':=λF hF=>⟨.refl _,λc o e=>(sb.2 c λq=>gK (q▸e) (rel.ck _ Pm).1).trans (rel.le c o e),λc o e q=>(sb.2 c λz=>q<|z▸hF).trans e,λc _ e n=>gK e n,f7⟩
 ⟨st _ Pm,rel.set h1 h2 (st _ hb) (λc hc=>hf▸hc) (hf.symm▸CI rel.nodup h1 h2) hr λc hc=>(rel.ck c<|lQ h1 h2 (hf▸hc)).1,PU h1 h2 λc hc=>hf▸hc⟩
theorem fx.rn{items:cT aB}{n:ai}{f:cT aB->cT aB}(hl:h.get? b=ab {cls:=.type "list",data:=.seq items n})(r:a7 (Rd g) (f items).toList ys):fx g (h.update b<|xF f) b ys:=
 ⟨f items,_,I7 _ hl rfl,r⟩
theorem EV{vs:af (aq×V)}{l:af V}{t sd:aH}(rel:ca prog w g h rs as)(h1:rs[i]?=ab (.st vs l t sd))(h2:as[i]?=ab a):a.1≠a.2.1/\a.1≠a.2.2/\a.2.1≠a.2.2:=
 have k:=j3.mp (CI rel.nodup h1 h2)
 ⟨λq=>k.1 (q▸.head _),λq=>k.1 (q▸.tail _ (.head _)),λq=>(j3.mp k.2).1<|q▸.head _⟩
variable(prog w) in
structure pd(g h:aI)(rs:Rs)(as:af Ad)(b:aP)(xs:af V)(f:af V->Rs):Prop where
 ah:fx g h b xs
 rn:∀(h':aI)(ys:af V),jD b h h'->fx g h' b ys->Step g h (bp rs as) g h'/\ca prog w g h' (f ys) as/\(∀c∈bp (f ys) as,c∈bp rs as)
theorem pd.ref(rel:ca prog w g h rs as)(h1:rs[i]?=ab (.ah xs))(h2:as[i]?=ab a):pd prog w g h rs as a.1 xs (λys=>rs.set i<|.ah ys):=
 ⟨rel.root _ _ _ h1 h2,λh' ys sb l=>Mine.rn (r':=.ah ys) rel h1 h2 (.head _) sb l.some rfl l⟩
theorem pd.bM{vs:af (aq×V)}{t sd:aH}(rel:ca prog w g h rs as)(h1:rs[i]?=ab (.st vs xs t sd))(h2:as[i]?=ab a):pd prog w g h rs as a.2.2 xs (λys=>rs.set i<|.st vs ys t sd):=
 have p:=rel.root _ _ _ h1 h2
 have nd:=EV rel h1 h2
 ⟨p.2.2,λh' ys sb l=>Mine.rn (r':=.st vs ys t sd) rel h1 h2 (.tail _ (.tail _ (.head _))) sb l.some rfl ⟨p.1.imp λ_=>.imp λ_ k=>DictOf.at k λo e=>(sb.2 _ nd.2.1).trans e,p.2.1.step (.refl _) λo e=>(sb.2 _ nd.2.2).trans e,l⟩⟩
theorem pd.set{α:Type}{u:α}{items:cT aB}{n:ai}{F:cT aB->cT aB}{P:aI->aI->α->Prop}(x:pd prog w g s.heap rs as b xs f)(hl:s.heap.get? b=ab {cls:=.type "list",data:=.seq items n})(r:a7 (Rd g) (F items).toList ys)(p:P g (s.heap.update b<|xF F) u):jV prog w g s rs as (f ys) P u {s with heap:=s.heap.update b (xF F)}:=
 have z:=x.rn _ ys (.update ..) (.rn hl r)
 ⟨g,_,s.toks,rfl,z.1,z.2.1,z.2.2,p⟩
theorem K9{j:ai}{q:af (aq×V)×af V×aH×aH}(e:Bp (fo rs j)=ab q):rs[j]?=ab (.st q.1 q.2.1 q.2.2.1 q.2.2.2):=qD (VT e) λz=>bP.noConfusion z
theorem Rr{ds:af V}{P:Prop}(rel:ca prog w g h rs as)(t:MR g as o u)(e:mN o ds rs=ab cj)(k:∀b xs f,u=.ref b->pd prog w g h rs as b xs f->xs.length+ds.length<=100000->f (xs++ds)=cj->P):P:=by
 cases o with
 |ref j=>exact t.elim λa q=>bind.on e λxs e1 e=>k a.1 _ _ q.2 (.ref rel (aaI e1) q.1) (fi e).1 (fi e).2|bM j=>exact t.elim λa q=>bind.on e λp e1 e=>k a.2.2 _ _ q.2 (.bM rel (K9 e1) q.1) (fi e).1 (fi e).2|_=>exact cO e
theorem Ro{R:aB->V->Prop}{items:cT aB}{k:ai}(r:a7 R items.toList xs)(h:xs.length+k<=100000):items.size+k<=100000:=r.bS.symm▸h
theorem ZP(rel:ca prog w g s.heap rs as)(t:MR g as o u)(r:Rd g v d)(e:mN o [d] rs=ab cj):aT (bH prog w) A (call (.builtin "list.append") [u,v]) (jV prog w g s rs as cj (λ_ _ x=>x=.none)) No s:=
 Rr rel t e λb xs f e1 x hz e2=>e1▸e2▸x.ah.elim λitems q=>q.elim λn q=>
  xC R8 ⟨_,q.1,rfl⟩ ah5 (show aT _ _ (updateSeq b (·.push v)>>=λ_=>ret .none) _ _ s from
   aY (IE q.1 rfl (b7 ⟨.none,rfl,x.set q.1 (by rw[Jy];exact q.2.vU r) rfl⟩) (o3<|aj (aW _ 1) (Ro q.2 hz))<|j2 (aj (bA<|ajJ _)<|o3 (Ro q.2 hz)))) (aif _ _)
theorem ZL{ds:af V}(rel:ca prog w g s.heap rs as)(t:MR g as o u)(r:Vw g s.heap v d)(hi:rY d=ab ds)(e:mN o ds rs=ab cj):aT (bH prog w) A (call (.builtin "list.extend") [u,v]) (jV prog w g s rs as cj (λ_ _ x=>x=.none)) No s:=
 Rr rel t e λb xs f e1 x hz e2=>e1▸e2▸x.ah.elim λitems q=>q.elim λn q=>by
  have a6:∀kP:cT aB,a7 (Rd g) kP.toList ds->jV prog w g s rs as (f<|xs++ds) (λ_ _ x=>x=.none) uX {s with heap:=s.heap.update b (xF λx=>x++kP)}:=λkP h2=>x.set q.1 (Iu q.2 h2) rfl
  cases d with
  |list TA=>
   cases hi
   exact r.elim λc p=>p.elim λi2 p=>(BS p.2.1).elim λd2 z=>z.elim λn2 z=>z.elim λmq n7=>p.1▸have hf:=Be q.2 p.2.2 hz
    Aq SM ⟨_,q.1,rfl⟩ aiI (aiK _ _) (adu b d2 mq items n c i2 n2 (aiS hf) (aj (aW _ _) hf)<|j2 hf) ⟨q.1,n7,a6 _ p.2.2⟩
  |tuple TA=>
   cases hi
   exact(Rd.kG r).elim λc p=>p.elim λi2 p=>(BR<|IsTuple.le rel.le p.2.1).elim λd2 z=>z.elim λn2 z=>z.elim λmq n7=>p.1▸have hf:=Be q.2 p.2.2 hz
    Aq SM ⟨_,q.1,rfl⟩ aiI (aiK _ _) (adt b d2 mq items n c i2 n2 (aiS hf) (aj (aW _ _) hf)<|j2 hf) ⟨q.1,n7,a6 _ p.2.2⟩
  |_=>exact cO hi
theorem P4{items:cT aB}{k:ai}:(items.eraseIdxIfInBounds k).toList=items.toList.eraseIdx k:=by
 unfold Array.eraseIdxIfInBounds
 split
 ·exact Array.toList_eraseIdx ..
 ·exact(List.eraseIdx_of_length_le<|nK.mp ‹_›).symm
theorem ZE{j:ai}(rel:ca prog w g s.heap rs as)(t:MR g as (.ref j) u)(h1:fo rs j=.ah xs)(hz:xs.length<=100000)(e:xs.getLast?=ab d):
  aT (bH prog w) A (call (.builtin "list.pop") [u]) (jV prog w g s rs as (rs.set j<|.ah xs.dropLast) (λg' _ x=>Rd g' x d)) No s:=
 t.elim λa p=>p.2▸have x:=pd.ref rel (qD h1 λz=>bP.noConfusion z) p.1
  x.ah.elim λitems q=>q.elim λn q=>(q.2.zY<|List.getLast?_eq_getElem?▸e).elim λy hy=>
   Aq Ja ⟨_,q.1,rfl⟩ aiH (F.args_list_pop_1 _) (akg a.1 items n y (q.2.bS.symm▸hy.1)<|q.2.uC hz) ⟨q.1,x.set q.1 (P4.symm▸q.2.bS.symm▸(List.eraseIdx_length_sub_one (l:=xs))▸q.2.eraseIdx _) hy.2⟩
theorem ZD{j:ai}{k:aH}(rel:ca prog w g s.heap rs as)(t:MR g as (.ref j) u)(r:Rd g v (.int k))(h1:fo rs j=.ah xs)(hz:xs.length<=100000)(hk:0<=k)(e:xs[k.toNat]?=ab d):
  aT (bH prog w) A (call (.builtin "list.pop") [u,v]) (jV prog w g s rs as (rs.set j<|.ah (xs.eraseIdx k.toNat)) (λg' _ x=>Rd g' x d)) No s:=
 Rd.fQ (P:=λv=>aT _ _ (call (.builtin "list.pop") [u,v]) _ _ _) r λtk=>t.elim λa p=>p.2▸have x:=pd.ref rel (qD h1 λz=>bP.noConfusion z) p.1
  x.ah.elim λitems q=>q.elim λn q=>(q.2.zY e).elim λy hy=>
   have d6:k<xs.length:=AE (AF (vd hk).symm) (oA.mpr (l8.mp e).1)
   Aq Ja ⟨_,q.1,rfl⟩ aiH (F.args_list_pop_2 _ _) (akh a.1 items n k tk k.toNat y (HR hk<|vf (Tt d6<|ve.mpr hz)) (WD hk<|q.2.bS.symm▸d6) hy.1<|q.2.uC hz) ⟨q.1,x.set q.1 (P4.symm▸q.2.eraseIdx _) hy.2⟩
theorem ZK{j:ai}{k:aq}{eZ eG:aB}{p:af (aq×V)×af V}(rel:ca prog w g s.heap rs as)(t:MR g as (.vars j) u)(dR:Rd g eZ (.str k))(ef:Rd g eG d)(h1:kK (fo rs j)=ab p):
  aT (bH prog w) A (call (.builtin "dict.get") [u,eZ,eG]) (jV prog w g s rs as rs (λg' _ x=>Rd g' x<|(p.1.lookup k).getD d)) No s:=
 Rd.kJ (P:=λv=>aT _ _ (call (.builtin "dict.get") [u,v,eG]) _ _ _) dR λtk=>t.elim λa q=>(rel.st q.1 h1).1.elim λkv z=>q.2▸
  call_meetsIn aiF z.1.mapOf.typeIs F.entry_dict_get (F.args_dict_get_3 _ _ _) (meets_dict_get_default (iT prog w) a.2.1 (Du prog w k tk) (rel.M6 q.1 h1).1 eG) ⟨_,z.1.mapOf,.eN rel
   ((NV z.2 k).elim (λq=>by rw[q.1,q.2];exact ef) λq=>q.elim λx q=>q.elim λd' q=>by rw[q.1,q.2.1];exact q.2.2)⟩
open PyProof.Rows in
theorem Vo{vs:af aB}{ys:af aq}(x:StrsAre vs ys):∃l:af (aq×mR),vs=strValues l/\l.map (·.1)=ys:=by
 induction x with
 |nil=>exact⟨[],rfl,rfl⟩|cons y t _ ih=>exact ih.elim λl q=>⟨(y,t)::l,ay (Value.str y t::·) q.1,ay (y::·) q.2⟩
open PyProof.Rows in
theorem ZJ{sep:aq}{ys:af aq}(rel:ca prog w g s.heap rs as)(dR:Rd g u (.str sep))(ef:Vw g s.heap v (.list xs))(e:sZ xs=ab ys)(hz:(ys.map (·.length)).sum+ys.length<=100000)(hs:sep.length<=16):
  aT (bH prog w) A (call (.builtin "str.join") [u,v]) (jV prog w g s rs as rs (λg' _ x=>Rd g' x<|.str (mS sep ys))) No s:=
 Rd.kJ (P:=λv'=>aT _ _ (call (.builtin "str.join") [v',v]) _ _ _) dR λtk=>ef.elim λa q=>q.elim λitems q=>(Vo (Bm q.2.2 e).1).elim λl p=>q.1▸
  SC.join (l:=l) ((DX.mp p.1:items=(strValues l).toArray)▸q.2.1) rfl (joinOk_of_weight (p.2.symm▸aj hz aa) hs) λt' k=>
   have e':Txt.join sep (l.map (·.1))=mS sep ys:=(by unfold Txt.join;rw[StrLaws.glued_eq_join]:Txt.join sep (l.map (·.1))=mS sep (l.map (·.1))).trans (ay (mS sep) p.2)
   .eN rel (show Rd g (.str (Txt.join sep<|l.map (·.1)) t') _ from e'.symm▸Rd.str _ (ER dR.strOk _ (Bm q.2.2 e).2))
end
end
end
section
variable{prog:cC}{w:dv}{A:fJ}
theorem VA{R:aB->V->Prop}{kv:af (aq×aB)}{bc:af (aq×V)}(h:a7 (λp q=>p.1=q.1/\R p.2 q.2) kv bc){k:aq}{v:aB}{d:V}(r:R v d):a7 (λp q=>p.1=q.1/\R p.2 q.2) (uU kv k v) (i8 bc k d):=by
 unfold uU i8
 rw[RA h λx=>decide (x=k)]
 by_cases c:(bc.any λp=>decide (p.1=k))=ae
 ·rw[a9 c,a9 c]
  refine h.map _ _ λp q hq=>?_
  by_cases e:q.1=k
  ·rw[a9 e,a9<|hq.1.trans e];exact⟨hq.1,r⟩
  ·rw[br e,br λz=>e<|hq.1.symm.trans z];exact hq
 ·rw[br c,br c];exact h.vU ⟨rfl,r⟩
theorem aah{j:ai}(h:j<=100000):SQ (j:aH)=ae:=HR (xQ j) (ve.mpr h)
theorem Wu{s:aZ}{l:aP}{items:cT aB}{n j:ai}{k:aH}{t:mR}{v:aB}{Q:Unit->aZ->Prop}(ek:(j:aH)=k)(ho:s.heap.get? l=ab {cls:=.type "list",data:=.seq items n})(hn:items.size<=100000)(hj:j<items.size)
  (hQ:Q () {s with heap:=s.heap.update l (xF (·.setIfInBounds j v))}):aT (bH prog w) A (IQ (.ref l) (.int k t) v) Q No s:=by
 have hT:s.TypeIs (.ref l) "list":=⟨_,ho,rfl⟩
 unfold IQ
 try with_reducible refine kB ?_
 first|refine aY (b7 ?_)|skip
 refine aY (RX hT aa ?_)
 refine aY (Dq (name:=fU "__setitem__") hT ahY
  (xC ahY hT entry_list_setitem ?_ (args_list_setitem _ _ _)))
 show aT _ _ (Je (.int k t)>>=_) _ _ s
 refine aY (wpAny_listSubscript_int (ek▸aah (aj (Ay hj) hn)) ?_)
 cases ek
 show aT _ _ ((seqItemAt l j>>=λr=>pure<|r.map (j,·))>>=_) _ _ s
 refine aY (aY<|ahC ho rfl (b7 ?_))
 rw[JB hj]
 show aT _ _ (setSeqItemAt l j v>>=_) _ _ s
 refine aY (wpAny_setSeqItemAt ho rfl ?_)
 first
  |exact aY (b7<|b7 ⟨.none,rfl,b7 hQ⟩)
  |exact b7 ⟨.none,rfl,b7 hQ⟩
section
variable{g:aI}{s:aZ}{rs cj:Rs}{as:af Ad}{o:MV}{u vi v:aB}{i d:V}{j:ai}{a:Ad}{xs l:af V}{vs:af (aq×V)}{tn b8:aH}{k:aq}
variable(prog w A) in
abbrev sA(g:aI)(s:aZ)(rs:Rs)(as:af Ad)(cj:Rs)(u vi v:aB):Prop:=aT (bH prog w) A (IQ u vi v) (jV prog w g s rs as cj (λ_ _ (_:Unit)=>True)) No s
theorem EZ{k:aH}{p:ai}(rel:ca prog w g s.heap rs as)(h1:rs[j]?=ab (.ah xs))(ha:as[j]?=ab a)(ri:Rd g vi (.int k))(r:Rd g v d)(hk:0<=k)(e:lI k xs.length=ab p):sA prog w A g s rs as (rs.set j<|.ah (xs.set p d)) (.ref a.1) vi v:=
 Rd.fQ (P:=λvi=>sA prog w A g s rs as _ _ vi v) ri λtk=>have x:=pd.ref rel h1 ha
  x.ah.elim λitems q=>q.elim λn q=>Bv (yO e).1 (λ_ h2 h3=>by
   cases h3
   exact Wu (vd hk) q.1 (q.2.bS.symm▸(yO e).2) (q.2.bS.symm▸oA.mp (AE (AF<|vd hk) h2))<|x.set q.1 (by rw[Array.toList_setIfInBounds];exact q.2.set r _) trivial) λh _ _=>(DV.mpr hk h).elim
theorem K7{r':bP}{h':aI}{n:ai}{b:aP}(rel:ca prog w g s.heap rs as)(h1:rs[j]?=ab (.st vs l tn b8))(ha:as[j]?=ab a)(hb:b∈foot a (.st vs l tn b8))(sb:jD b s.heap h')(hs:(h'.get? b).isSome=ae)(hf:foot a r'=[a.1,a.2.1,a.2.2])(hr:ip prog w g h' a r'):
  jV prog w g s rs as (rs.set j r') (λ_ _ (_:Unit)=>True) () {s with heap:=h',toks:=n}:=
 have z:=rn rel h1 ha hb sb hs hf hr
 ⟨g,h',n,rfl,z.1,z.2.1,z.2.2,trivial⟩
theorem Ws{t:aH}(rel:ca prog w g s.heap rs as)(h1:rs[j]?=ab (.st vs l tn b8))(ha:as[j]?=ab a)(ri:Rd g vi (.str rW))(r:Rd g v (.int t)):sA prog w A g s rs as (rs.set j<|.st vs l t b8) (.ref a.1) vi v:=
 Rd.kJ (P:=λvi=>sA prog w A g s rs as _ _ vi v) ri λtk=>Rd.fQ (P:=λv=>sA prog w A g s rs as _ _ _ v) r λt2=>
  have p:=rel.root _ _ _ h1 ha
  have nd:=EV rel h1 ha
  p.1.elim λfL q=>q.elim λfA k1=>ahz (knd:=iT prog w) (k:=rW) (Du prog w _ tk) k1 (λh' qx sb=>
   K7 rel h1 ha (.head _) sb (DictOf.some qx) rfl ⟨⟨t2,fA,qx⟩,p.2.1.step (.refl _) λo e=>(sb.2 _ (Ne.symm nd.1)).trans e,p.2.2.step (.refl _) λo e=>(sb.2 _ (Ne.symm nd.2.1)).trans e⟩) (o3 (aa:4<=100000))
theorem Wo(rel:ca prog w g s.heap rs as)(h1:rs[j]?=ab (.st vs l tn b8))(ha:as[j]?=ab a)(ri:Rd g vi (.str k))(r:Rd g v d)(hz:vs.length<=100000):sA prog w A g s rs as (rs.set j<|.st (i8 vs k d) l tn b8) (.ref a.2.1) vi v:=
 Rd.kJ (P:=λvi=>sA prog w A g s rs as _ _ vi v) ri λtk=>
  have p:=rel.root _ _ _ h1 ha
  have nd:=EV rel h1 ha
  p.2.1.elim λkv q=>ahz (knd:=iT prog w) (k:=k) (Du prog w _ tk) q.1 (λh' qx sb=>
   K7 rel h1 ha (.tail _ (.head _)) sb (DictOf.some qx) rfl ⟨p.1.imp λ_=>.imp λ_ k=>DictOf.at k λo e=>(sb.2 _ nd.1).trans e,⟨_,qx,VA q.2 r⟩,p.2.2.step (.refl _) λo e=>(sb.2 _ (Ne.symm nd.2.2)).trans e⟩) (o3<|q.2.length.symm▸hz)
theorem MQ(rel:ca prog w g s.heap rs as)(t:MR g as o u)(ri:Rd g vi i)(r:Rd g v d)(e:rC o i d rs=ab cj):sA prog w A g s rs as cj u vi v:=by
 cases o with
 |ref j=>
  exact t.elim λa q=>q.2▸by
   have e:LD (fo rs j) j i d rs=ab cj:=e
   generalize hq:fo rs j=E6 at e
   cases E6 with
   |ah xs=>exact bind.on e λk e1 e=>pE (λhk:0<=k=>map.on ((a9 hk).symm.trans e) λp e2 e=>e▸EZ rel (qD hq λz=>bP.noConfusion z) q.1 (show Rd g vi (.int k) from qu e1▸ri) r hk e2) λhk=>gK e (br hk)|st vs l tn b8=>exact bind.on e λx e1 e=>bind.on e λt e2 e=>(eC e).2▸Ws rel (qD hq λz=>bP.noConfusion z) q.1 ((eC e).1▸Vw.yU (h:=g) ri e1) (show Rd g v (.int t) from qu e2▸r)|_=>exact cO e
 |vars j=>exact t.elim λa q=>bind.on e λp e1 e=>bind.on e λx e2 e=>(fi e).2▸q.2▸Wo rel (K9 e1) q.1 (Vw.yU (h:=g) ri e2) r (fi e).1|_=>exact cO e
end
end
section
variable{prog:cC}{w:dv}
inductive l6(g:aI):af az->af Ad->af aB->af V->Prop
 |nil:l6 g [] [] [] []
 |own {bs:af az} {oa:af Ad} {bT:af aB} {ds:af V} {a:Ad}:l6 g bs oa bT ds->l6 g (ae::bs) (a::oa) (.ref a.1::bT) ds
 |val {bs:af az} {oa:af Ad} {bT:af aB} {ds:af V} {v:aB} {d:V}:Rd g v d->l6 g bs oa bT ds->l6 g (ag::bs) oa (v::bT) (d::ds)
section
variable{g h:aI}{rs own cE:Rs}{as oa:af Ad}{i j:ai}{r r':bP}{a:Ad}{b:aP}
theorem FW{b:aP}{P:Prop}(h:b∈bp [] as):P:=(gA h).elim
theorem ca.nil(l:Le g h):ca prog w g h [] []:=⟨l,rfl,λi r a e=>gK e rfl,.nil,λ_ q=>FW (as:=[]) q⟩
theorem sk:b∈bp (r::rs) (a::as)↔b∈foot a r\/b∈bp rs as:=iX
theorem ca.cons(x:ca prog w g h rs as)(hr:ip prog w g h a r)(hn:(foot a r).Nodup)(ha:∀b∈foot a r,b∉bp rs as)(ho:∀b∈foot a r,g.get? b=aw/\b≠jl):ca prog w g h (r::rs) (a::as) where
 le:=x.le
 len:=ay Av x.len
 root:=λi q c=>i.casesOn (λe1 e2=>cq e1▸cq e2▸hr) λi=>x.root i q c
 nodup:=ow.mpr ⟨hn,x.nodup,λb hb c hc q=>ha b hb<|q▸hc⟩
 ck:=λb hb=>(iX.mp hb).elim (ho b) (x.ck b)
theorem ca.tail(x:ca prog w g h (r::rs) (a::as)):ca prog w g h rs as:=
 ⟨x.le,DL x.len,λi q c=>x.root (i+1) q c,(ow.mp x.nodup).2.1,λb q=>x.ck b<|sk.mpr (.inr q)⟩
theorem adn(h1:rs[i]?=ab .cA)(h2:as[i]?=ab a)(hn:(foot a r').Nodup)(hs:∀b∈foot a r',b∉bp rs as)(hd:(bp rs as).Nodup):(bp (rs.set i r') as).Nodup:=
 (uD h1 h2).elim λR q=>(q.2 r').nodup_iff.mpr (ow.mpr ⟨hn,(q.nodup hd).2.1,λx hx y hy e=>hs x hx<|q.mem (e▸hy)⟩)
theorem ca.bI(x:ca prog w g h rs as)(h1:rs[i]?=ab .cA)(h2:as[i]?=ab a)(hr:ip prog w g h a r)(hn:(foot a r).Nodup)(ha:∀b∈foot a r,b∉bp rs as)(ho:∀b∈foot a r,g.get? b=aw/\b≠jl):ca prog w g h (rs.set i r) as where
 le:=x.le
 len:=x.len.trans pC.symm
 root:=λj q c e1 e2=>E0 h1 e1 (λz e=>e▸LM h2 z e2▸hr) λ_ e1=>x.root j q c e1 e2
 nodup:=adn h1 h2 hn ha x.nodup
 ck:=λb hb=>(CM h1 h2 hb).elim (x.ck b) (ho b)
inductive pg(F:aP->Prop)(as:af Ad):Rs->af (aD ai)->af Ad->Prop
 |nil:pg F as [] [] []
 |ref {i:ai} {a:Ad} {r:bP} {own:Rs} {bk:af (aD ai)} {oa:af Ad}:as[i]?=ab a->ab i∉bk->(∀b∈foot a r,F b)->pg F as own bk oa->pg F as (r::own) (ab i::bk) (a::oa)
 |own {a:Ad} {r:bP} {own:Rs} {bk:af (aD ai)} {oa:af Ad}:pg F as own bk oa->pg F as (r::own) (aw::bk) (a::oa)
theorem pg.aU{F F':aP->Prop}(hF:∀b,F b->F' b){bk:af (aD ai)}(x:pg F as own bk oa):pg F' as own bk oa:=by
 induction x with
 |nil=>exact .nil|ref h1 h2 h3 _ ih=>exact .ref h1 h2 (λb hb=>hF b<|h3 b hb) ih|own _ ih=>exact .own ih
noncomputable def ac5(a:Ad):ai->af aP
 |0=>[]
 |1|2|3=>[a.1]
 |_=>[a.1,a.2.1,a.2.2]
theorem ac4(a:Ad)(r:bP):foot a r=ac5 a (rk r):=by cases r<;>rfl
theorem LN(h:LO r r'=ae):∀b∈foot a r',b∈foot a r:=λb hb=>by
 rw[ac4] at hb ⊢
 exact(q5.mp h).elim (λe=>by rw[ai8 e] at hb;exact(gA hb).elim) λe=>ai8 e▸hb
variable(prog w) in
abbrev Put(g h:aI)(rs cj:Rs)(as:af Ad)(F:aP->Prop):Prop:=ca prog w g h cj as/\∀b∈bp cj as,b∈bp rs as\/F b
theorem YI{F:aP->Prop}{bk:af (aD ai)}(hB:pg F as own bk oa):∀{cE rs:Rs},tq own cE=ae->(∀i,ab i∈bk->rs[i]?=ab .cA)->ca prog w g h rs as->ca prog w g h cE oa->(∀b∈bp cE oa,b∉bp rs as)->Put prog w g h rs (Fz bk cE rs) as F:=by
 induction hB with
 |nil=>exactλ_ _ rel _ _=>⟨rel,λb hb=>.inl hb⟩
 |@ref i a r own bk oa ha hi hf hb ih=>
  intro cE rs hk hd rel ro hx
  cases cE with
  |nil=>exact q6 hk|cons r' cE=>
   have k:=dc.mp hk
   have h1:=hd i (.head _)
   have nd:=ow.mp ro.nodup
   have nX:∀b∈foot a r',b∉bp rs as:=λb q=>hx b (sk.mpr<|.inl q)
   have z:=ih (rs:=rs.set i r') k.2 (λj hj=>(xO λq:i=j=>hi<|q▸hj).trans (hd j<|.tail _ hj)) (rel.bI h1 ha (ro.root 0 _ a rfl rfl) nd.1 nX λb q=>ro.ck b<|sk.mpr (.inl q)) ro.tail
    λb q y=>(CM h1 ha y).elim (hx b<|sk.mpr (.inr q)) λk=>nd.2.2 b k b q rfl
   exact⟨z.1,λb q=>(z.2 b q).elim (λy=>(CM h1 ha y).imp id λy=>hf b<|LN k.1 b y) .inr⟩
 |own _ ih=>
  intro cE rs hk hd rel ro hx
  cases cE with
  |nil=>exact q6 hk|cons r' cE=>exact ih (dc.mp hk).2 (λj hj=>hd j<|.tail _ hj) rel ro.tail λb q=>hx b (sk.mpr<|.inr q)
end
theorem eh.down{g h h₀ h₁:aI}{as:af Ad}{ms:af MV}{bT:af aB}(x:eh prog w g h as h₁ ms bT)(hd:∀b,h₁.get? b=aw->h₀.get? b=aw):eh prog w g h as h₀ ms bT:=by
 cases x with
 |nil=>exact .nil|cons t f6 ts=>exact .cons (t.old hd λ_ e=>e) (λb e=>hd b<|f6 b e) ts
section
variable{rs:Rs}{i j:ai}{r:bP}{m:MV}{p:V×Rs}
theorem LB(h:rs[j]?=ab .cA):(rs.set i .cA)[j]?=ab .cA:=pE (λz:i=j=>z▸AB (z▸(l8.mp h).1)) λz=>(xO z).trans h
theorem LC(h:(rs.set i .cA)[j]?=ab r)(hr:r≠.cA):i≠j/\rs[j]?=ab r:=
 have n:i≠j:=λz=>hr (cq<|((z▸h):(rs.set i .cA)[i]?=ab r).symm.trans (AB<|pC▸(l8.mp (z▸h:(rs.set i .cA)[i]?=ab r)).1))
 ⟨n,(xO n).symm.trans h⟩
theorem KR(e:jr m rs=ab p):p.2=rs\/∃i,p.2=rs.set i .cA:=by
 cases m with
 |val d=>exact .inl (cq e▸rfl)|own r=>exact map.on e λ_ _ e=>.inl (e▸rfl)|ref i=>exact map.on e λ_ _ e=>.inr ⟨i,e▸rfl⟩|bM i=>exact map.on e λ_ _ e=>.inr ⟨i,e▸rfl⟩|vars i=>exact cO e
theorem UX(e:jr m rs=ab p)(h:rs[j]?=ab .cA):p.2[j]?=ab .cA:=(KR e).elim (λq=>q▸h) λq=>q.elim λi q=>q▸LB h
theorem UY(e:jr m rs=ab p)(h:p.2[j]?=ab r)(hr:r≠.cA):rs[j]?=ab r:=(KR e).elim (λq=>q▸h) λq=>q.elim λi q=>(LC (q▸h) hr).2
end
structure lu(prog:cC)(w:dv)(g h h₀:aI)(rs:Rs)(as:af Ad)(bs:af az)(bT:af aB)(p:Pd)(g':aI)(oa:af Ad):Prop where
 up:Up g h h₀ (bp rs as) g'
 rel:ca prog w g' h p.2.1 as
 own:ca prog w g' h p.1 oa
 apart:∀b∈bp p.1 oa,b∉bp p.2.1 as
 old:∀b∈bp p.1 oa,b∈bp rs as\/h₀.get? b=aw
 sub:∀b∈bp p.2.1 as,b∈bp rs as
 args:l6 g' bs oa bT p.2.2.1
 CX:pg (·∈bp rs as) as p.1 p.2.2.2 oa
 cA:∀i:ai,ab i∈p.2.2.2->(∃r,rs[i]?=ab r/\r≠.cA)/\p.2.1[i]?=ab .cA
 keep:∀i:ai,rs[i]?=ab .cA->p.2.1[i]?=ab .cA
section
variable{g g' dw h h₀ h₁:aI}{rs yF:Rs}{as oa:af Ad}{bs:af az}{bT:af aB}{p:Pd}{i:ai}{r:bP}{a:Ad}{v:aB}{q:V×Rs}
theorem lu.val(u:Up g h h₀ (bp rs as) dw)(rd:Rd dw v q.1)(sub:∀b∈bp q.2 as,b∈bp rs as)(hd:∀b,h₁.get? b=aw->h₀.get? b=aw)(k0:∀j:ai,rs[j]?=ab .cA->q.2[j]?=ab .cA)(k1:∀(j:ai)(r:bP),q.2[j]?=ab r->r≠.cA->rs[j]?=ab r)
  (x:lu prog w dw h h₁ q.2 as bs bT p g' oa):lu prog w g h h₀ rs as (ag::bs) (v::bT) (p.1,p.2.1,q.1::p.2.2.1,p.2.2.2) g' oa:=
 ⟨u.trans x.up sub hd,x.rel,x.own,x.apart,λb hb=>(x.old b hb).imp (sub b) (hd b),λb hb=>sub b (x.sub b hb),l6.val (rd.aU x.up.gg) x.args,x.CX.aU sub,λi hi=>⟨(x.cA i hi).1.imp λr z=>⟨k1 i r z.1 z.2,z.2⟩,(x.cA i hi).2⟩,λi hi=>x.keep i<|k0 i hi⟩
theorem lu.ck(x:lu prog w g h h₁ yF as bs bT p g' oa){b:aP}(hb:g.get? b=aw)(n:b∉bp yF as)(e:(h₁.get? b).isSome=ae):g'.get? b=aw/\b∉bp p.1 oa:=
 ⟨xJ.mpr λo q=>(x.up.new b o q hb).elim n (qg e),λq=>(x.old b q).elim n<|qg e⟩
theorem lu.vO(x:lu prog w g h h₁ yF as bs bT p g' oa)(hr:ip prog w g h a r)(hn:(foot a r).Nodup)(n:∀b∈foot a r,b∉bp yF as)(e:∀b∈foot a r,g.get? b=aw/\(h₁.get? b).isSome=ae/\b≠jl):
  ca prog w g' h (r::p.1) (a::oa)/\∀b∈bp (r::p.1) (a::oa),b∉bp p.2.1 as:=
 have k:=λb hb=>x.ck (e b hb).1 (n b hb) (e b hb).2.1
 ⟨x.own.cons (hr.step x.up.gg λ_ _ _ e=>e) hn (λb hb=>(k b hb).2) λb hb=>⟨(k b hb).1,(e b hb).2.2⟩,λb hb q=>(sk.mp hb).elim (λz=>n b z<|x.sub b q) λz=>x.apart b z q⟩
theorem lu.ref(rel:ca prog w g h rs as)(hF:∀b∈bp rs as,(h₀.get? b).isSome=ae)(h1:rs[i]?=ab r)(hl:r≠.cA)(ha:as[i]?=ab a)(x:lu prog w g h h₀ (rs.set i .cA) as bs bT p g' oa):lu prog w g h h₀ rs as (ae::bs) (.ref a.1::bT) (r::p.1,p.2.1,p.2.2.1,ab i::p.2.2.2) g' (a::oa):=
 have sub:∀b∈bp (rs.set i .cA) as,b∈bp rs as/\b∉foot a r:=yY h1 ha rel.nodup
 have foot:∀b∈foot a r,b∈bp rs as:=λb hb=>lQ h1 ha hb
 have z:=x.vO (rel.root i r a h1 ha) (CI rel.nodup h1 ha) (λb hb q=>(sub b q).2 hb) λb hb=>⟨(rel.ck b<|foot b hb).1,hF b (foot b hb),(rel.ck b<|foot b hb).2⟩
 have d:(rs.set i .cA)[i]?=ab .cA:=AB (l8.mp h1).1
 ⟨⟨x.up.gg,x.up.gh,λb o y q=>(x.up.new b o y q).imp (λz=>(sub b z).1) id⟩,x.rel,z.1,z.2,λb hb=>(sk.mp hb).elim (λz=>.inl<|foot b z) λz=>(x.old b z).imp (λz=>(sub b z).1) id,λb hb=>(sub b<|x.sub b hb).1,.own x.args,
  .ref ha (λq=>(x.cA i q).1.elim λr' z=>z.2<|cq (z.1.symm.trans d)) foot (x.CX.aU λb hb=>(sub b hb).1),
  λj hj=>(dX.mp hj).elim (λq=>(cq q).symm▸show(∃r,rs[i]?=ab r/\r≠.cA)/\p.2.1[i]?=ab .cA from⟨⟨r,h1,hl⟩,x.keep i d⟩) λq=>⟨(x.cA j q).1.imp λr z=>⟨(LC z.1 z.2).2,z.2⟩,(x.cA j q).2⟩,λj hj=>x.keep j<|LB hj⟩
theorem lu.new(hd:∀b,h₁.get? b=aw->h₀.get? b=aw)(hF:∀b∈bp rs as,(h₀.get? b).isSome=ae)(hr:ip prog w g h a r)(hn:(foot a r).Nodup)(ho:∀b∈foot a r,g.get? b=aw/\h₀.get? b=aw/\(h₁.get? b).isSome=ae/\b≠jl)(x:lu prog w g h h₁ rs as bs bT p g' oa):
  lu prog w g h h₀ rs as (ae::bs) (.ref a.1::bT) (r::p.1,p.2.1,p.2.2.1,aw::p.2.2.2) g' (a::oa):=
 have z:=x.vO hr hn (λb hb q=>qg (hF b q) (ho b hb).2.1) λb hb=>⟨(ho b hb).1,(ho b hb).2.2⟩
 ⟨⟨x.up.gg,x.up.gh,λb o y q=>(x.up.new b o y q).imp id<|hd b⟩,x.rel,z.1,z.2,λb hb=>(sk.mp hb).elim (λz=>.inr (ho b z).2.1) λz=>(x.old b z).imp id (hd b),x.sub,.own x.args,.own x.CX,λj hj=>x.cA j ((dX.mp hj).resolve_left λq=>nomatch q),x.keep⟩
theorem JC{ms:af MV}{u:Unit}(e:zero ms=ab u):ms=[]:=by
 cases ms with
 |nil=>rfl|cons _ _=>exact cO e
theorem UK{ms:af MV}{q:MV×af MV}(e:KJ ms=ab q):ms=q.1::q.2:=by
 cases ms with
 |nil=>exact cO e|cons _ _=>exact cq e▸rfl
theorem YY{bs:af az}:∀{ms:af MV}{bT:af aB}{g h₀:aI}{rs:Rs}{p:Pd},eh prog w g h as h₀ ms bT->ca prog w g h rs as->(∀b∈bp rs as,(h₀.get? b).isSome=ae)->FF bs ms rs=ab p->∃g' oa,lu prog w g h h₀ rs as bs bT p g' oa:=by
 induction bs with
 |nil=>
  exactλ{ms bT g h₀ rs p} ts rel hF e=>map.on e λ_ e1 e=>e▸(JC e1▸ts:eh prog w g h as h₀ [] bT).BZ▸
   ⟨g,[],.refl rel.le,rel,.nil rel.le,λ_ q=>FW (as:=[]) q,λ_ q=>FW (as:=[]) q,λ_ h=>h,.nil,.nil,λ_ q=>(gA q).elim,λ_ h=>h⟩
 |cons b bs ih=>
  exactλ{ms bT g h₀ rs p} ts rel hF e=>bind.on e λq e1 e=>bind.on e λhd e2 e=>map.on e λp e3 e=>e▸(UK e1▸ts:eh prog w g h as h₀ (q.1::q.2) bT).on (P:=λbT=>∃g' oa,lu prog w g h h₀ rs as (b::bs) bT (hd.1.bI p) g' oa) λh₁ v bT t dm ts=>by
   revert e3
   cases b with
   |false=>
    exact map.on e2 λz e4 e5=>e5▸λe3=>(HO rel t e4 hF).up rel.le λL u r1 r2 r3 r4=>
     (ih (ts.uA rel.le λb hb=>(r4 b hb).elim (λq=>r8 dm<|hF b q) id) r1 (λb hb=>r8 dm<|hF b (r3 b hb)) e3).imp λg'=>.imp λoa x=>x.val u r2 r3 dm (λj=>UX e4) λj r=>UY e4
   |true=>
    obtain⟨m,ms⟩:=q
    cases m with
    |ref i=>exact map.on e2 λz e4 e5=>e5▸λe3=>t.elim λa q=>xq rfl e4 λr h1 e=>(B7 e).1▸q.2▸(ih (ts.down dm) (rel.Oy h1 q.1) (λb hb=>hF b (yY h1 q.1 rel.nodup b hb).1) e3).imp λg' y=>y.elim λoa x=>⟨_,x.ref rel hF h1 (B7 e).2 q.1⟩
    |own r=>exact map.on e2 λz e4 e5=>e5▸λe3=>t.2.elim λa q=>(B7 e4).1▸q.1▸(ih ts rel (λb hb=>r8 dm<|hF b hb) e3).imp λg' y=>y.elim λoa x=>⟨_,x.new dm hF q.2.1 q.2.2.1 q.2.2.2⟩
    |_=>exact cO e2
end
end
structure kA where
 name:aq
 params:Arguments
 body:af fI
 scope:gR
def zU:af aq:=[ju,ND,F6,NF,F7,Nz,NA,NB,yW,wN,wO]
noncomputable def sE(f9:ai->aD kA)(g:aI)(f:ai)(a:aP):Prop:=
 ∃d o pm code doc,f9 f=ab d/\g.get? a=ab o/\o.data=.func (SN d.name d.params d.body d.scope pm code doc)/\g.CodeRec code d.name
theorem sE.aU{f9:ai->aD kA}{g g':aI}(l:Le g g'){f:ai}{a:aP}(x:sE f9 g f a):sE f9 g' f a:=
 x.imp λ_=>.imp λ_=>.imp λ_=>.imp λ_=>.imp λ_=>.imp id (.imp (l _ _)<|.imp id λh=>h.keeps l)
structure Gl(c0:aq->aD ai)(f9:ai->aD kA)(g:aI):Prop where
 ns:∃mg mb,g.Ns Dx mg/\g.Ns Sw mb/\(∀x∈zU,mg x=aw/\mb x=Dz x)/\∀x k,c0 x=ab k->∃a,mg x=ab (.ref a)/\sE f9 g k a
 nolimit:g.NoLimit
theorem Gl.aU{c0:aq->aD ai}{f9:ai->aD kA}{g g':aI}(l:Le g g')(x:Gl c0 f9 g):Gl c0 f9 g' where
 ns:=x.ns.imp λ_=>.imp λ_=>.imp (λh=>h.keeps l) (.imp (λh=>h.keeps l)<|.imp id λh y k e=>(h y k e).imp λ_=>.imp id (.aU l))
 nolimit:=x.nolimit.keeps l
theorem Gl.bU{c0:aq->aD ai}{f9:ai->aD kA}{g h:aI}(x:Gl c0 f9 g)(l:Le g h):jz h:=let ⟨mg,mb,h1,h2,_⟩:=x.ns;⟨mg,mb,h1.keeps l,h2.keeps l⟩
def Dm(prog:cC)(w:dv)(c0:aq->aD ai)(f9:ai->aD kA)(cb:ai->aD (af az))(C:Dd)(N:ai):Prop:=
 ∀(A:fJ)(g:aI)(s:aZ)(f:ai)(a:aP)(bs:af az)(own cE:Rs)(oa:af Ad)(bT:af aB)(ds:af V)(m:MV),
  Ok A N->Gl c0 f9 g->sE f9 g f a->cb f=ab bs->ca prog w g s.heap own oa->l6 g bs oa bT ds->C f own ds m cE->tq own cE=ae->
  aT (bH prog w) A (call (.ref a) bT) (jV prog w g s own oa cE λg' h' v=>TR prog w g' h' s.heap h' oa m v) No s
structure Cx where
 prog:cC
 w:dv
 c0:aq->aD ai
 f9:ai->aD kA
 cb:ai->aD (af az)
 C:Dd
 N:ai
 A:fJ
 s:aZ
 env:ff
 sc:Sc
noncomputable def o9(sc:Sc):Prop:=∀(i j:ai)(x:aq)(k:eK),sc.slots[i]?=ab (x,k)->sc.slots[j]?=ab (x,k)->(k=.local\/k=.cell)->i=j
structure b6(c:Cx):Prop where
 ok:lY c.env c.sc
 so:o9 c.sc
 gJ:Ok c.A c.N
 hC:Dm c.prog c.w c.c0 c.f9 c.cb c.C c.N
structure Mo where
 g:aI
 h:aI
 rs:Rs
 tk:ai
noncomputable abbrev Cx.st(c:Cx)(μ:Mo):aZ:={c.s with heap:=μ.h,toks:=μ.tk}
abbrev W(c:Cx){α:Type}(t:eD α)(Q:α->aZ->Prop)(μ:Mo):Prop:=aT (bH c.prog c.w) c.A t Q No (c.st μ)
structure cG(c:Cx)(vs:Vs)(as:af Ad)(μ:Mo):Prop where
 gl:Gl c.c0 c.f9 μ.g
 rel:ca c.prog c.w μ.g μ.h μ.rs as
 jc:gH μ.g μ.h c.env c.sc vs as (bp μ.rs as)
 len:vs.length=c.sc.slots.length
structure cF(c:Cx)(vs:Vs)(as:af Ad)(μ μ':Mo):Prop where
 aQ:cG c vs as μ'
 st:Step μ.g μ.h (bp μ.rs as) μ'.g μ'.h
 sub:∀b∈bp μ'.rs as,b∈bp μ.rs as
def TM(c:Cx)(as:af Ad)(μ μ':Mo)(m:MV)(v:aB):Prop:=TR c.prog c.w μ'.g μ'.h μ.h μ'.h as m v
noncomputable def jA(c:Cx)(as:af Ad)(μ μ':Mo)(ms:af MV)(us:af aB):Prop:=eh c.prog c.w μ'.g μ'.h as μ.h ms us
section
variable{c:Cx}{vs:Vs}{as:af Ad}{μ μ' μ₁ μ₂:Mo}
theorem cG.le(n:cG c vs as μ):Le μ.g μ.h:=n.rel.le
theorem cG.bU(n:cG c vs as μ):jz μ.h:=n.gl.bU n.rel.le
theorem cG.ft(n:cG c vs as μ):cF c vs as μ μ:=⟨n,.refl _ n.rel.le,λ_ h=>h⟩
theorem cG.go{μ':Mo}(n:cG c vs as μ)(st:Step μ.g μ.h (bp μ.rs as) μ'.g μ'.h)(rel:ca c.prog c.w μ'.g μ'.h μ'.rs as)(sub:∀b∈bp μ'.rs as,b∈bp μ.rs as):cF c vs as μ μ':=
 ⟨⟨n.gl.aU st.gg,rel,n.jc.step st sub,n.len⟩,st,sub⟩
theorem cG.quiet(n:cG c vs as μ){g h:aI}(tk:ai)(st:Step μ.g μ.h [] g h):cF c vs as μ ⟨g,h,μ.rs,tk⟩:=
 n.go (μ':=⟨g,h,μ.rs,tk⟩) (st.aU λ_ q=>nomatch q) (n.rel.step st λ_ _ q=>nomatch q) λ_ h=>h
theorem cG.fm(n:cG c vs as μ){h:aI}(tk:ai)(k:Le μ.h h):cF c vs as μ ⟨μ.g,h,μ.rs,tk⟩:=n.quiet tk (.fm [] n.le k)
theorem cG.jH(n:cG c vs as μ)(tk:ai):cF c vs as μ ⟨μ.g,μ.h,μ.rs,tk⟩:=n.quiet tk (.refl _ n.le)
theorem cF.trans(a:cF c vs as μ μ₁)(b:cF c vs as μ₁ μ₂):cF c vs as μ μ₂:=⟨b.aQ,a.st.trans b.st λx hx=>.inl (a.sub x hx),λx hx=>a.sub x<|b.sub x hx⟩
theorem cG.alloc(n:cG c vs as μ)(T:cF c vs as μ μ₁):∀b∈bp μ₁.rs as,(μ.h.get? b).isSome=ae:=λb hb=>n.rel.alloc (T.sub b hb)
theorem TM.wH{m:MV}{v:aB}(x:MR μ'.g as m v):TM c as μ μ' m v:=TR.wH x
theorem TM.val{d:V}{v:aB}(x:Rd μ'.g v d):TM c as μ μ' (.val d) v:=x
theorem TM.jJ{m:MV}{v:aB}(t:TM c as μ₁ μ₂ m v)(T:cF c vs as μ μ₁):TM c as μ μ₂ m v:=TR.old t T.st.f7 λ_ e=>e
theorem TM.on{m:MV}{v:aB}(t:TM c as μ μ₁ m v)(n:cG c vs as μ)(eP:cF c vs as μ μ₁)(T:cF c vs as μ₁ μ₂):TM c as μ μ₂ m v:=
 (TR.step t T.st<|n.alloc eP).old (λ_ e=>e) T.st.f7
theorem jA.nil:jA c as μ μ' [] []:=eh.nil
theorem jA.cons{m:MV}{v:aB}{ms:af MV}{us:af aB}(n:cG c vs as μ)(eP:cF c vs as μ μ₁)(t:TM c as μ μ₁ m v)(T:cF c vs as μ₁ μ₂)(ts:jA c as μ₁ μ₂ ms us):jA c as μ μ₂ (m::ms) (v::us):=
 eh.cons (TR.step t T.st<|n.alloc eP) eP.st.f7 ts
theorem jA.jJ{ms:af MV}{us:af aB}(t:jA c as μ₁ μ₂ ms us)(T:cF c vs as μ μ₁):jA c as μ μ₂ ms us:=eh.down t T.st.f7
theorem TM.vw{m:MV}{v:aB}{d:V}(t:TM c as μ μ₁ m v)(n:cG c vs as μ₁)(e:view m μ₁.rs=ab d):Vw μ₁.g μ₁.h v d:=vK n.rel t e
theorem jA.keep{ms:af MV}{us:af aB}{p:af V×Rs}(ts:jA c as μ μ₁ ms us)(n:cG c vs as μ)(T:cF c vs as μ μ₁)(e:sY ms μ₁.rs=ab p):∃g,cF c vs as μ ⟨g,μ₁.h,p.2,μ₁.tk⟩/\a7 (Rd g) us p.1/\Le μ₁.g g:=
 (ac0 ts T.aQ.rel e<|n.alloc T).imp λg q=>⟨n.go (μ':=⟨g,μ₁.h,p.2,μ₁.tk⟩) (T.st.up q.1 T.sub) q.2.1 λb hb=>T.sub b (q.2.2.2 b hb),q.2.2.1,q.1.gg⟩
theorem TM.keep{m:MV}{v:aB}{p:V×Rs}(t:TM c as μ μ₁ m v)(n:cG c vs as μ)(T:cF c vs as μ μ₁)(e:jr m μ₁.rs=ab p):∃g,cF c vs as μ ⟨g,μ₁.h,p.2,μ₁.tk⟩/\Rd g v p.1/\Le μ₁.g g:=
 (PF t T.aQ.rel e<|n.alloc T).imp λg q=>⟨n.go (μ':=⟨g,μ₁.h,p.2,μ₁.tk⟩) (T.st.up q.1 T.sub) q.2.1 λb hb=>T.sub b (q.2.2.2 b hb),q.2.2.1,q.1.gg⟩
theorem Pq{α:Type}{x:aD α}{os:Os}{K:α->Os->Prop}(h:b4 x os K):∃a,x=ab a/\K a os:=match x,h with
 |some a,h=>⟨a,rfl,h⟩
theorem HE{α:Type}{x:aD α}{os:Os}{K:α->Os->Prop}(h:b4 x os K):∃a os,x=ab a/\K a os:=let ⟨a,e,h⟩:=Pq h;⟨a,os,e,h⟩
theorem UW{α:Type}{bI:ai->α->qU}{x:aD α}{os iN:Os}{K:α->Os->Prop}:∀{r:aD (ai×α)},KQ bI x os iN K r->∃a os,x=ab a/\K a os
 |none,h=>HE h|some (0,a),h=>⟨a,iN,h⟩
 |some (_+1,_),h=>HE h
theorem CZ{α:Type}{get:qU->aD (ai×α)}{bI:ai->α->qU}{x:aD α}{K:α->Os->Prop}:∀{os:Os},dB get bI x os K->∃a os,x=ab a/\K a os
 |[],h=>HE h|_::_,h=>UW h
theorem b4.on{α:Type}{x:aD α}{os:Os}{K:α->Os->Prop}{R:Prop}(h:b4 x os K)(k:∀a,x=ab a->K a os->R):R:=(Pq h).elim λa p=>k a p.1 p.2
theorem dB.on{α:Type}{get:qU->aD (ai×α)}{bI:ai->α->qU}{x:aD α}{os:Os}{K:α->Os->Prop}{R:Prop}(h:dB get bI x os K)(k:∀a os,x=ab a->K a os->R):R:=(CZ h).elim λa p=>p.elim λos p=>k a os p.1 p.2
theorem A6{b:az}{u:Unit}(h:eA b=ab u):b=ae:=by cases b<;>first|rfl|cases h
variable{α:Type}{t:eD α}{Q:α->aZ->Prop}{P:aI->aI->α->Prop}
theorem cG.op(n:cG c vs as μ)(H:aT (bH c.prog c.w) c.A t (d9 μ.g (c.st μ) P) No (c.st μ))(k:∀g h tk v,cF c vs as μ ⟨g,h,μ.rs,tk⟩->P g h v->Q v (c.st ⟨g,h,μ.rs,tk⟩)):W c t Q μ:=
 fq H (λv _ p=>p.elim λg p=>p.elim λh p=>p.elim λtk p=>p.1▸k g h tk v (n.quiet tk p.2.1) p.2.2) λ_ _ z=>z
theorem cG.post{cj:Rs}(n:cG c vs as μ)(H:aT (bH c.prog c.w) c.A t (jV c.prog c.w μ.g (c.st μ) μ.rs as cj P) No (c.st μ))(k:∀g h tk v,cF c vs as μ ⟨g,h,cj,tk⟩->P g h v->Q v (c.st ⟨g,h,cj,tk⟩)):W c t Q μ:=
 fq H (λv _ p=>p.elim λg p=>p.elim λh p=>p.elim λtk p=>p.1▸k g h tk v (n.go (μ':=⟨g,h,cj,tk⟩) p.2.1 p.2.2.1 p.2.2.2.1) p.2.2.2.2) λ_ _ z=>z
end
def Sx(c:Cx)(e:aX)(x:X):Prop:=∀⦃vs:Vs⦄⦃as:af Ad⦄⦃μ:Mo⦄⦃os:Os⦄⦃K:MV->Rs->Os->Prop⦄⦃Q:aB->aZ->Prop⦄,cG c vs as μ->wX c.C c.cb x μ.rs vs os K->
 (∀μ' m v os,cF c vs as μ μ'->TM c as μ μ' m v->K m μ'.rs os->Q v (c.st μ'))->W c (eR e c.env) Q μ
def Bx(c:Cx)(e:aX)(x:X):Prop:=∀⦃vs:Vs⦄⦃as:af Ad⦄⦃μ:Mo⦄⦃os:Os⦄⦃K:MV->az->Rs->Os->Prop⦄⦃Q:az->aZ->Prop⦄,cG c vs as μ->wT c.C c.cb x μ.rs vs os K->
 (∀μ' m b os,cF c vs as μ μ'->fM m μ'.rs=ab b->K m b μ'.rs os->Q b (c.st μ'))->W c (isTrue e c.env<|eR e c.env) Q μ
noncomputable def Bo:aX->az
 | .Starred ..=>ae|_=>ag
def Sy(c:Cx)(e:aX)(x:X):Prop:=Sx c e x/\Bo e=ag
section
variable{c:Cx}{x y z:X}{e e' jv:aX}{pos:eJ}
theorem EF{vs:Vs}{as:af Ad}{μ Tx:Mo}{m:MV}{v:aB}{K:az->Os->Prop}{os:Os}{Q:az->aZ->Prop}(n:cG c vs as μ)(t:TM c as Tx μ m v)(h:lT (fM m μ.rs) os K)
  (k:∀g h tk b os,cF c vs as μ ⟨g,h,μ.rs,tk⟩->fM m μ.rs=ab b->K b os->Q b (c.st ⟨g,h,μ.rs,tk⟩)):W c (uT v) Q μ:=
 dB.on h λb iN e h=>n.op (Zw n.rel t e) λg h' tk b' T r=>k g h' tk b' _ T (r▸e) (r▸h)
theorem U3(H:Sx c e x)(he:isTrue e c.env (eR e c.env)=(do let v <-eR e c.env;IP e.pos;qW [v] (uT v)):=by rfl):Bx c e x:=λ_ _ _ _ _ _ n h k=>
 wpAny_isTrue_value (H n h λμ₁ m v os T t h=>EF T.aQ t h λg h' tk b os bo er h=>k _ m b _ (T.trans bo) er h) he
theorem afA{o:Ai}(Hl:Sx c e x)(Hr:Sx c e' y):Sx c (.BinOp e (FK o) e' pos) (.bq o x y):=λ_ _ _ _ _ _ n h k=>
 ahT (Hl n h λμ₁ a eZ Zt eP fL h=>Hr eP.aQ h λμ₂ b eG Zs bo fA h=>b4.on h λajU e1 h=>b4.on h λajT e2 h=>dB.on h λm iN e3 h=>
  bo.aQ.op (ZN bo.aQ.le bo.aQ.bU ((fL.on n eP bo).vw bo.aQ e1) (fA.vw bo.aQ e2) e3) λg h' tk v T r=>k _ m v _ (eP.trans<|bo.trans T) (TM.jJ (μ₁:=μ₂) (μ₂:=⟨g,h',μ₂.rs,tk⟩) r<|eP.trans bo) h)
theorem fQ{vs:Vs}{as:af Ad}{μ:Mo}{i:aH}{k:ai}{Q:aB->aZ->Prop}(n:cG c vs as μ)(q:∀tk,cF c vs as μ ⟨μ.g,μ.h,μ.rs,tk⟩->∀t,Q (.int i t)<|c.st ⟨μ.g,μ.h,μ.rs,tk⟩):W c (eR (.Constant (.int i) k pos) c.env) Q μ:=R3 (q (μ.tk+1) (n.jH _) _)
theorem aeO{d:V}{k:ai}(hd:ui d=ae):Sx c (.Constant (zN d) k pos) (.lit d):=λvs as μ os K Q n h q=>by
 cases d with
 |none=>exact ahR (q μ _ _ _ n.ft (TM.val Rd.none) h)|bool b=>exact ahS (q μ _ _ _ n.ft (TM.val<|Rd.bool b) h)|int i=>exact fQ n λtk T t=>q _ _ _ _ T (TM.val<|Rd.int i t) h|str x=>exact Dr (q ⟨μ.g,μ.h,μ.rs,μ.tk+1⟩ _ _ _ (n.jH _) (TM.val<|Rd.str _ hd) h)|_=>cases hd
theorem YL{k₁ k₂:ai}{YE YD:eJ}:Sx c (.BinOp (.Constant (.int 10) k₁ YE) .Pow (.Constant (.int 120) k₂ YD) pos) (.lit<|.int 1000000000000000000000000000000000000000000000000000000000000000000000000000000000000000000000000000000000000000000000000):=
 λvs as μ os K Q n h q=>ahT (fQ n λtk T t=>fQ T.aQ λiI bo fA=>akE aa (by decide+kernel)<|by
  rw[show(10:aH) ^ (120:aH).toNat=1000000000000000000000000000000000000000000000000000000000000000000000000000000000000000000000000000000000000000000000000 by decide+kernel]
  exact q ⟨μ.g,μ.h,μ.rs,iI+1⟩ _ _ _ (n.jH _) (TM.val<|Rd.int _ _) h)
theorem aaa(H:Sx c e x):Sx c (.UnaryOp .USub e pos) (.neg x):=λ_ _ _ _ _ _ n h k=>ahP (H n h λμ₁ m v os T t h=>b4.on h λr e h=>by
 cases m with
 |val d=>cases d with
  |int i=>
   cases e
   exact T.aQ.op (ZF T.aQ.le t) λg h' tk v bo r=>k _ _ _ _ (T.trans bo) (TM.val r) h
  |_=>exact cO e
 |_=>exact cO e)
theorem ZY(H:Sx c e x):Sx c (.UnaryOp .Not e pos) (.not x):=λ_ _ _ _ _ _ n h k=>
 ahP (H n h λμ₁ m v os T t h=>not_value<|EF T.aQ t h λg h' tk b os bo _ h=>k _ _ _ _ (T.trans bo) (TM.val<|Rd.bool _) h)
theorem U4(H:Bx c e x):Bx c (.UnaryOp .Not e pos) (.not x):=λvs as μ os K Q n h k=>
 wpAny_isTrue_Not (H (K:=λ_ b rs os=>lT (ab<|!b) os λb' os=>K (.val<|.bool (!b)) b' rs os) n h λμ₁ m b os T _ h=>dB.on h λb' os e h=>cq e▸k _ (.val<|.bool (!b)) _ _ T e h)
theorem abS(Ht:Bx c e x)(Ha:Sx c e' y)(Hb:Sx c jv z):Sx c (.IfExp e e' jv pos) (.ite x y z):=λvs as μ os K Q n h k=>
 wpAny_IfExp (Ht (K:=λ_ b rs os=>match b with|true=>wX c.C c.cb y rs vs os K|false=>wX c.C c.cb z rs vs os K) n h λμ₁ m b os T _ h=>by
  cases b with
  |true=>exact Ha T.aQ h λμ₂ m v os bo t h=>k _ m v _ (T.trans bo) (t.jJ T) h|false=>exact Hb T.aQ h λμ₂ m v os bo t h=>k _ m v _ (T.trans bo) (t.jJ T) h)
theorem U6(Ht:Bx c e x)(Ha:Bx c e' y)(Hb:Bx c jv z):Bx c (.IfExp e e' jv pos) (.ite x y z):=λvs as μ os K Q n h k=>by
 rw[arm_isTrue_IfExp]
 exact aY (Ht (K:=λ_ b rs os=>match b with|true=>wT c.C c.cb y rs vs os K|false=>wT c.C c.cb z rs vs os K) n h λμ₁ m b os T _ h=>by
  cases b with
  |true=>exact Ha T.aQ h λμ₂ m b os bo t h=>k _ m b _ (T.trans bo) t h|false=>exact Hb T.aQ h λμ₂ m b os bo t h=>k _ m b _ (T.trans bo) t h)
theorem QE{o:uP}{vs:Vs}{as:af Ad}{μ:Mo}{os:Os}{K:MV->Rs->Os->Prop}{Q:aB->aZ->Prop}(F:b6 c)(Hl:Sx c e x)(Hr:Sx c e' y)(n:cG c vs as μ)(h:wX c.C c.cb (.au o x y) μ.rs vs os K)
  (k:∀μ' b os,cF c vs as μ μ'->K (.val<|.bool b) μ'.rs os->Q (.bool b) (c.st μ')):
  W c (eR e c.env) (λa aA=>aT (bH c.prog c.w) c.A (eR e' c.env) (λb aS=>aT (bH c.prog c.w) c.A (qX (uK o) a b) Q No aS) No aA) μ:=
 Hl n h λμ₁ a eZ Zt eP fL h=>Hr eP.aQ h λμ₂ b eG Zs bo fA h=>dB.on h λb iN e h=>
  bo.aQ.op (ZM F.gJ bo.aQ.rel (fL.on n eP bo) fA e) λg h' tk v T r=>r▸k _ b _ (eP.trans<|bo.trans T) h
end
section
variable{c:Cx}{x y z:X}{e e' jv:aX}{pos:eJ}{vs:Vs}{as:af Ad}{μ μ₁ μ₂:Mo}
theorem aeZ{o:uP}(F:b6 c)(Hl:Sx c e x)(Hr:Sx c e' y)(hm:SA (uK o) e'=ag):Sx c (.Compare e [uK o] [e'] pos) (.au o x y):=λvs as μ os K Q n h k=>
 wpAny_Compare1 (QE F Hl Hr n h λμ' b os T h=>k _ _ _ _ T (TM.val<|Rd.bool b) h) hm
theorem U7{o:uP}(F:b6 c)(Hl:Sx c e x)(Hr:Sx c e' y)(hm:SA (uK o) e'=ag):Bx c (.Compare e [uK o] [e'] pos) (.au o x y):=λvs as μ os K Q n h k=>
 ahH (QE F Hl Hr n h λμ' b os T h=>dB.on h λb' os e h=>
  RW (cq e▸k _ (.val<|.bool b) _ _ T e h)) hm
noncomputable def cw:az->BoolOp
 |true=>.And|false=>.Or
abbrev Go(c:Cx){α β:Type}(t:eD α)(F:Rs->Vs->Os->(β->Rs->Os->Prop)->Prop)(R:af Ad->Mo->Mo->β->α->Prop):Prop:=
 ∀⦃vs:Vs⦄⦃as:af Ad⦄⦃μ:Mo⦄⦃os:Os⦄⦃K:β->Rs->Os->Prop⦄⦃Q:α->aZ->Prop⦄,cG c vs as μ->F μ.rs vs os K->(∀μ' m v os,cF c vs as μ μ'->R as μ μ' m v->K m μ'.rs os->Q v (c.st μ'))->W c t Q μ
theorem afl{s:az}{es:af aX}{xs:af X}(H:a7 (Sx c) es xs):Go c (boolOp pos (cw s)<|So es c.env) (wB c.C c.cb s xs) (TM c):=by
 induction H with
 |nil=>exactλ_ _ _ _ _ _ n h k=>h.elim|cons h1 h2 ih=>
  cases h2 with
  |nil=>exact h1|@cons PY Tz es xs h2 h3=>
   intro vs as μ os K Q n h k
   refine aY (f:=λv=>do
    IP pos
    let b <-qW [v] (uT v)
    match cw s,b with
    | .And,ag| .Or,ae=>pure v|_,_=>boolOp pos (cw s)<|So (PY::es) c.env) (h1 n h λμ₁ m v os T t h=>aY<|jW (aY<|kB (EF T.aQ t h λg h' tk b os bo _ h=>?_)))
   have on:wB c.C c.cb s (Tz::xs) μ₁.rs vs os K->W c (boolOp pos (cw s)<|So (PY::es) c.env) Q ⟨g,h',μ₁.rs,tk⟩:=λh=>ih bo.aQ h λμ₂ m v os dC t h=>k _ m v _ (T.trans<|bo.trans dC) (t.jJ<|T.trans bo) h
   have ck:K m μ₁.rs os->W c (pure v) Q ⟨g,h',μ₁.rs,tk⟩:=λh=>b7 (k _ m v _ (T.trans bo) (t.on n T bo) h)
   cases s<;>cases b
   ·exact on h
   ·exact ck h
   ·exact ck h
   ·exact on h
theorem ahj{s:az}{es:af aX}{xs:af X}(H:a7 (Bx c) es xs):Go c (allTrue (cw s) es c.env) (λrs vs os K=>wB c.C c.cb s xs rs vs os λm rs os=>lT (fM m rs) os λb os=>K (m,b) rs os) λ_ _ μ' p b=>p.2=b/\fM p.1 μ'.rs=ab b:=by
 induction H with
 |nil=>exactλ_ _ _ _ _ _ n h k=>h.elim|@cons e x es xs h1 h2 ih=>
  intro vs as μ os K Q n h k
  have a6:∀{μ':Mo}{m:MV}{b:az}{os:Os},cF c vs as μ μ'->fM m μ'.rs=ab b->(lT (fM m μ'.rs) os λb os=>K (m,b) μ'.rs os)->Q b (c.st μ'):=λT e h=>dB.on h λb' os e' h=>cq (e'.symm.trans e)▸k _ (_,b') _ os T ⟨rfl,e'⟩ h
  cases h2 with
  |nil=>
   cases s with
   |true=>exact ahO (h1 (K:=λm b rs os=>K (m,b) rs os) n h λμ' m b os T e h=>by
     cases b with
     |true=>exact wpAny_allTrue_And_nil (k _ (m,ae) _ os T ⟨rfl,e⟩ h)|false=>exact k _ (m,ag) _ os T ⟨rfl,e⟩ h)
   |false=>exact ahN (h1 (K:=λm b rs os=>K (m,b) rs os) n h λμ' m b os T e h=>by
     cases b with
     |true=>exact k _ (m,ae) _ os T ⟨rfl,e⟩ h|false=>exact wpAny_allTrue_Or_nil<|k _ (m,ag) _ os T ⟨rfl,e⟩ h)
  |cons h2 h3=>
   cases s with
   |true=>exact ahO (h1 n h λμ' m b os T e h=>by
     cases b with
     |true=>exact ih T.aQ h λμ₂ p b os bo e h=>k _ p b _ (T.trans bo) e h|false=>exact a6 T e h)
   |false=>exact ahN (h1 n h λμ' m b os T e h=>by
     cases b with
     |true=>exact a6 T e h|false=>exact ih T.aQ h λμ₂ p b os bo e h=>k _ p b _ (T.trans bo) e h)
theorem js{env:ff}{e:aX}(h:Bo e=ag)(rest:af aX):qV (e::rest) env=(ag,eR e env)::qV rest env:=by
 cases e<;>first|rfl|cases h
theorem yH{es:af aX}{xs:af X}(H:a7 (Sy c) es xs):Go c (R7<|uW pos (qV es c.env)) (mZ c.C c.cb xs) λas μ μ' ms us=>jA c as μ μ' ms us/\us.length=es.length:=by
 induction H with
 |nil=>exactλ_ _ _ _ _ _ n h k=>b7 (k _ [] [] _ n.ft ⟨.nil,rfl⟩ h)|cons h1 h2 ih=>exactλ_ _ _ _ _ _ n h k=>Ak (h1.1 n h λμ₁ m v os T t h=>ih (Q:=λus s=>_) T.aQ h λμ₂ ms us os bo ts h=>k μ₂ (m::ms) (v::us) os (T.trans bo) ⟨jA.cons n T t bo ts.1,ay (·+1) ts.2⟩ h) (js h1.2 _)
theorem UO{es:af aX}{xs:af X}{kd:ai}(H:a7 (Sy c) es xs)(hz:xs.length<=1000):Sx c (.Tuple es kd pos) (.aC xs):=λ_ _ _ _ _ _ n h k=>by
 rw[aid]
 exact aY (jW<|aY (yH H n h λμ₁ ms us os T ts h=>b4.on h λp e h=>(ts.1.keep n T e).elim λgM q=>
  q.1.aQ.op (MP q.1.aQ.le q.2.1 (by rw[ts.2,H.length];exact aj hz aa)) λg h' tk v dC r=>k _ _ _ _ (q.1.trans dC) (TM.val r) h))
theorem aaG{es:af aX}{xs:af X}(H:a7 (Sy c) es xs)(hz:xs.length<=1000):Sx c (.List es pos) (.ah xs):=λ_ _ _ _ _ _ n h k=>by
 rw[arm_eval_List]
 exact aY (jW<|aY (yH H n h λμ₁ ms us os T ts h=>b4.on h λp e h=>(ts.1.keep n T e).elim λgM q=>
  q.1.aQ.op (ZH q.1.aQ.le q.1.aQ.bU q.2.1 (by rw[ts.2,H.length];exact aj hz aa)) λg h' tk v dC r=>k _ _ _ _ (q.1.trans dC) (TM.jJ (μ₁:=⟨gM,μ₁.h,p.2,μ₁.tk⟩) (μ₂:=⟨g,h',p.2,tk⟩) r q.1) h))
structure Slot(sc:Sc)(i:ai)(k:eK):Prop where
 at':sc.slots[i]?=ab (nm sc i,k)
 kind:k=.local\/k=.cell
 lL:sc.names.lookup (nm sc i)=ab k
 dbg:(nm sc i==("__debug__":aq))=ag
theorem yv{sc:Sc}{i:ai}(h:iK sc i=ae):∃k,Slot sc i k:=by
 unfold iK at h
 cases e:sc.slots[i]? with
 |none=>rw[e] at h;cases h|some p=>
  rw[e] at h
  have hn:nm sc i=p.1:=by unfold nm;rw[e]
  simp only [q7,Bool.or_eq_true,decide_eq_true_eq,pF] at h
  exact⟨p.2,by rw[hn];exact e,h.1.1,by rw[hn];exact h.1.2,by rw[hn];exact h.2⟩
theorem aak{i:ai}(F:b6 c)(h:iK c.sc i=ae):Sx c (.Name (nm c.sc i) pos) (.var i):=λvs as μ os K Q n h' k=>(yv h).elim λkd S=>b4.on h' λm e h'=>by
 obtain⟨v,ha,hr⟩:=n.jc.lG i _ kd m S.at' S.lL (Option.join_eq_some_iff.mp e)
 refine R2 ?_ S.dbg
 have hk:=(F.ok.kindOf<|nm c.sc i).trans S.lL
 have a6:Q v (c.st μ):=k μ m v os n.ft (TM.wH hr) h'
 rcases S.kind with rfl|rfl
 ·exact ha.elim λmm p=>RZ F.ok.kind hk p.1 p.2 a6
 ·exact ha.elim λa p=>wpAny_loadName_cell F.ok.kind hk p.1 p.2 a6
theorem CD{sc:Sc}{x:aq}(h:kT sc x=ae):sc.names.lookup x=ab .globalImplicit/\(x==("__debug__":aq))=ag:=by
 unfold kT at h
 simpa only [q7,decide_eq_true_eq,pF] using h
theorem zB{id:aq}{v:aB}{Q:aB->aZ->Prop}(F:b6 c)(n:cG c vs as μ)(hx:kT c.sc id=ae)(hb:id∈zU)(hv:Dz id=ab v)(h:Q v (c.st μ)):W c (eR (.Name id pos) c.env) Q μ:=by
 obtain⟨mg,mb,h1,h2,h3,_⟩:=n.gl.ns
 refine aiM F.ok.kind (by rw[F.ok.kindOf,(CD hx).1]) ?_ (CD hx).2
 exact Calls.loadGlobal_builtin (by rw[F.ok.gl];exact h1.keeps n.le) (h3 id hb).1 (by rw[F.ok.bl];exact h2.keeps n.le) ((h3 id hb).2.trans hv) h
theorem acQ{id:aq}{f:ai}{Q:aB->aZ->Prop}(F:b6 c)(n:cG c vs as μ)(hx:kT c.sc id=ae)(hk:c.c0 id=ab f)(h:∀a,sE c.f9 μ.g f a->Q (.ref a) (c.st μ)):W c (eR (.Name id pos) c.env) Q μ:=by
 obtain⟨mg,mb,h1,h2,_,h4⟩:=n.gl.ns
 obtain⟨a,h5,h6⟩:=h4 id f hk
 refine aiM F.ok.kind (by rw[F.ok.kindOf,(CD hx).1]) ?_ (CD hx).2
 exact Calls.loadGlobal_global (by rw[F.ok.gl];exact h1.keeps n.le) h5 (h a h6)
theorem TM.rd{m:MV}{v:aB}{d:V}(t:TM c as μ μ₁ m v)(e:fz m=ab d):Rd μ₁.g v d:=show TM c as μ μ₁ (.val d) v from rm e▸t
theorem ab7(Ha:Sx c e x)(Hb:Sx c e' y):Sx c (.Subscript e e' pos) (.aK x y):=λ_ _ _ _ _ _ n h k=>
 C7 (Ha n h λμ₁ m v os T t h=>Hb T.aQ h λμ₂ m₂ eG os bo fA h=>b4.on h λd e h=>dB.on h λm' os e' h=>
  (MT (A:=c.A) (s:=c.st μ₂) bo.aQ.rel (t.on n T bo) (fA.rd e) e').imp λ_ q=>q.imp λ_ q=>⟨q.1,q.2.1,bo.aQ.op q.2.2 λg h' tk v dC r=>k _ _ _ _ (T.trans<|bo.trans dC) (TM.jJ (μ₁:=μ₂) (μ₂:=⟨g,h',μ₂.rs,tk⟩) r<|T.trans bo) h⟩)
theorem Z3:Go c (IW aw c.env) (wX c.C c.cb<|.lit .none) (TM c):=λ_ _ _ _ _ _ n h k=>b7 (k _ _ _ _ n.ft (TM.val Rd.none) h)
theorem V7{lo hi:aD aX}{p:eJ}(Ha:Sx c e x)(Hl:Go c (IW lo c.env) (wX c.C c.cb y) (TM c))(Hh:Go c (IW hi c.env) (wX c.C c.cb z) (TM c)):Sx c (.Subscript e (.Slice lo hi aw p) pos) (.dU x y z):=λ_ _ _ _ _ _ n h k=>
 C7 (Ha n h λμ₁ m v os T t h=>ahQ<|Hl T.aQ h λμ₂ ml vl os bo tl h=>Hh bo.aQ h λjo mh vh os dC th h=>dB.on h λm' os e h=>sF (ah4 c.env) (bind.on e λdl e0 e=>bind.on e λdh e0' e=>bind.on e λlo e1 e=>bind.on e λhi e2 e=>bind.on e λd e3 e=>by
  have ji:=dC.aQ.fm jo.tk (gI jo.h {cls:=.type "slice",data:=.fields #[vl,vh,.none]})
  have o7:=bo.trans (dC.trans ji)
  exact(ZB (A:=c.A) (as:=_) (s:=c.st ⟨jo.g,_,jo.rs,jo.tk⟩) ji.aQ.le ji.aQ.bU ((t.on n T o7).vw ji.aQ e3) (aiA _ _ _ _) (QW (Rd.aU dC.st.gg<|tl.rd e0) e1) (QW (th.rd e0') e2) e).imp λ_ q=>q.imp λ_ q=>
   ⟨q.1,q.2.1,ji.aQ.op q.2.2 λg h' tk v sy r=>k _ _ _ _ (T.trans<|o7.trans sy) (TM.jJ (μ₁:=⟨jo.g,_,jo.rs,jo.tk⟩) (μ₂:=⟨g,h',jo.rs,tk⟩) r<|T.trans o7) h⟩))
theorem Wb{kd:ai}{p p':eJ}(Ha:Sx c e x)(Hk:Sx c e' y):Sx c (.Subscript e (.Slice (ab e') aw (ab<|.Constant (.int 4) kd p) p') pos) (.vV x y):=λ_ _ _ _ _ _ n h k=>
 C7 (Ha n h λμ₁ m v os T t h=>ahQ<|Hk T.aQ h λμ₂ ml vl os bo tl h=>sF (ah4 c.env) (fQ (k:=kd) (pos:=p) bo.aQ λEJ dC t4=>dB.on h λm' os e h=>bind.on e λdj e0 e=>bind.on e λj e1 e=>bind.on e λd e3 e=>bind.on e λxs e4 e=>by
  obtain⟨hz,e5⟩:=eC e
  have ji:=dC.aQ.fm EJ (gI μ₂.h {cls:=.type "slice",data:=.fields #[vl,.none,.int 4 t4]})
  have o7:=bo.trans (dC.trans ji)
  have r:=tl.rd e0
  rw[qu e1] at r
  have vw:=(t.on n T o7).vw ji.aQ e3
  rw[Gi e4] at vw
  exact r.wY.elim λt2 q=>(ZA (A:=c.A) (as:=_) (s:=c.st ⟨μ₂.g,_,μ₂.rs,EJ⟩) ji.aQ.le ji.aQ.bU vw (aiA _ _ _ _) (q▸.int j t2) rfl hz.1.1 hz.2).imp λ_ q=>q.imp λ_ q=>
   ⟨q.1,q.2.1,ji.aQ.op q.2.2 λg h' tk v sy r=>k _ _ _ _ (T.trans<|o7.trans sy) (TM.jJ (μ₁:=⟨μ₂.g,_,μ₂.rs,EJ⟩) (μ₂:=⟨g,h',μ₂.rs,tk⟩) (e5▸r)<|T.trans o7) h⟩))
end
section
variable{c:Cx}{x y z:X}{e e' jv:aX}{pos:eJ}{vs:Vs}{as:af Ad}{μ μ₁ μ₂:Mo}
theorem TM.vo{oa:af Ad}{m:MV}{v:aB}(hm:Ey m=ae)(x:TM c oa μ μ₁ m v):TM c as μ μ₁ m v:=by
 cases m with
 |val d=>exact x|own r=>exact x|_=>cases hm
theorem QQ{f:ai}{a:aP}{ms:af MV}{us:af aB}{os:Os}{K:MV->Rs->Os->Prop}{Q:aB->aZ->Prop}(F:b6 c)(n:cG c vs as μ)(T:cF c vs as μ μ₁)(ts:jA c as μ μ₁ ms us)(ha:sE c.f9 μ.g f a)
  (h:QR c.C c.cb f ms μ₁.rs os K)(k:∀μ' m v os,cF c vs as μ μ'->TM c as μ μ' m v->K m μ'.rs os->Q v (c.st μ')):W c (call (.ref a) us) Q μ₁:=
 b4.on h λbs e1 h=>b4.on h λp e2 h=>b4.on h λq e3 h=>b4.on h.2 λu e4 hK=>
  have hs:Ey q.1=ae/\tq p.1 q.2.1=ae:=dc.mp (A6 e4)
  (YY ts T.aQ.rel (n.alloc T) e2).elim λg' z=>z.elim λoa z=>
  have oK:Step μ.g μ.h (bp μ.rs as) g' μ₁.h:=T.st.up z.up T.sub
  fq (F.hC c.A g' (c.st μ₁) f a bs p.1 q.2.1 oa us p.2.2.1 q.1 F.gJ (n.gl.aU oK.gg) (ha.aU oK.gg) e1 z.own z.args h.1 hs.2) (λv s' hv=>hv.elim λgM hv=>hv.elim λcH hv=>hv.elim λiI hv=>
   have b:=YI z.CX hs.2 (λi hi=>(z.cA i hi).2) (z.rel.step hv.2.1 λb hb q=>z.apart b q hb) hv.2.2.1 λb hb=>z.apart b (hv.2.2.2.1 b hb)
   hv.1▸k ⟨gM,cH,_,iI⟩ q.1 v _ (n.go (oK.trans hv.2.1 λb hb=>(z.old b hb).imp (T.sub b) id) b.1 λy hy=>T.sub y<|(b.2 y hy).elim (z.sub y) id)
    (TM.vo (μ₁:=⟨gM,cH,_,iI⟩) hs.1<|TR.old hv.2.2.2.2 oK.f7 λ_ e=>e) hK) λ_ _ z=>z
theorem Ag{env:ff}{id:aq}{p pos:eJ}{args:af aX}:eR (.Call (.Name id p) args [] pos) env=(do Sv pos (<-eR (.Name id p) env) [] (uW pos<|qV args env) (backToKw pos<|ah1 [] env)):=rfl
theorem ac6{nm:aq}{p:eJ}{es:af aX}{xs:af X}{f:ai}(F:b6 c)(hx:kT c.sc nm=ae)(hk:c.c0 nm=ab f)(H:a7 (Sy c) es xs):Sx c (.Call (.Name nm p) es [] pos) (.call f xs):=λvs as μ os K Q n h k=>by
 rw[Ag]
 refine aY (acQ F n hx hk λa ha=>?_)
 refine ha.elim λd q=>q.elim λo q=>q.elim λpm q=>q.elim λcode q=>q.elim λdoc q=>?_
 have k2:=q.2.1
 have k3:=q.2.2.1
 cases H with
 |nil=>exact Calls.callWith_function (o:=o) (aiT ⟨⟨n.le _ _ k2,k3⟩,QQ F n n.ft .nil ha h k⟩)|cons h₁ cH=>
  refine akR (o:=o) k3 ?_ (js h₁.2 _)
  exact yH (.cons h₁ cH) n h λμ₁ ms us os T ts h=>⟨T.aQ.le _ _ (T.st.gg _ _ k2),QQ F n T ts.1 ha h k⟩
noncomputable def Q1:Bi->aB
 | .len=>.builtin "len"| .list=>.type "list"| .tuple=>.type "tuple"| .sum=>.builtin "sum"| .rA=>.builtin "sorted"| .repr=>.builtin "repr"| .str=>.type "str"| .n5=>.type "tuple"| .uh=>.type "int"| .qq=>.type "str"
theorem Q0(b:Bi):Dz (qM b)=ab (Q1 b):=by cases b<;>decide+kernel
theorem QY(b:Bi):qM b∈zU:=by cases b<;>decide+kernel
theorem QZ{b:Bi}{m:MV}{v:aB}{os:Os}{K:MV->Rs->Os->Prop}{Q:aB->aZ->Prop}(F:b6 c)(T:cF c vs as μ μ₁)(t:TM c as μ μ₁ m v)(h:b4 (view m μ₁.rs) os λd os=>Ik (gY b d) os λm os=>K m μ₁.rs os)
  (k:∀μ' m v os,cF c vs as μ μ'->TM c as μ μ' m v->K m μ'.rs os->Q v (c.st μ')):W c (CW b v) Q μ₁:=
 b4.on h λd e h=>dB.on h λm' os e' h=>T.aQ.op (ZO F.gJ T.aQ.le T.aQ.bU (t.vw T.aQ e) e') λg h' tk v bo r=>k _ m' v os (T.trans bo) (TM.jJ (μ₁:=μ₁) (μ₂:=⟨g,h',μ₁.rs,tk⟩) r T) h
theorem afC{b:Bi}{p:eJ}(F:b6 c)(hx:kT c.sc (qM b)=ae)(hb:wW b=ag)(H:Sy c e x):Sx c (.Call (.Name (qM b) p) [e] [] pos) (.bi b x):=λvs as μ os K Q n h k=>by
 rw[Ag]
 refine aY (zB F n hx (QY b) (Q0 b) ?_)
 have main:∀f,(∀u,CW b u=call f [u])->W c (R7<|uW pos (qV [e] c.env)) (λus aA=>aT (bH c.prog c.w) c.A (call f us) Q No aA) μ:=λf hf=>
  Ak (H.1 n h λμ₁ m u os T t h=>IH<|hf u▸QZ F T t h k) (js H.2 _)
 cases b with
 |len=>exact DK (main _ λ_=>rfl) (js H.2 _)|sum=>exact DK (main _ λ_=>rfl) (js H.2 _)|rA=>exact DK (main _ λ_=>rfl) (js H.2 _)|repr=>exact DK (main _ λ_=>rfl) (js H.2 _)|list=>exact DJ (main _ λ_=>rfl) (js H.2 _)|tuple=>exact DJ (main _ λ_=>rfl) (js H.2 _)|str=>exact DJ (main _ λ_=>rfl) (js H.2 _)|_=>cases hb
theorem abT{b:Bi}{p p':eJ}(F:b6 c)(hx:kT c.sc (qM b)=ae)(hi:kT c.sc yW=ae)(hb:wW b=ae)(H:Sy c e x):Sx c (.Call (.Name yW p) [e,.Name (qM b) p'] [] pos) (.bi b x):=λvs as μ os K Q n h k=>by
 have hf:∀u,CW b u=call (.builtin "isinstance") [u,Q1 b]:=by cases b<;>first|exactλ_=>rfl|cases hb
 rw[Ag]
 exact aY (zB F n hi (by decide+kernel) (by decide+kernel)<|DK (Ak (H.1 n h λμ₁ m u os T t h=>Ak<|zB F T.aQ hx (QY b) (Q0 b) (IH<|hf u▸QZ F T t h k))<|js H.2 _) (js H.2 _))
theorem Nh{env:ff}{es:af aX}{xs:af X}(H:a7 (Sy c) es xs):(uW pos<|qV es env).any (·.1)=ag/\(uW pos<|qV es env).all (λx=>!x.1)=ae:=by
 induction H with
 |nil=>exact⟨rfl,rfl⟩|cons h1 _ ih=>rw[js h1.2];exact ih
theorem aay{id:String}{ov:aB}{es:af aX}{xs:af X}{os:Os}{K:af MV->Rs->Os->Prop}{Q:aB->aZ->Prop}(H:a7 (Sy c) es xs)(n:cG c vs as μ)(h:mZ c.C c.cb xs μ.rs vs os K)
  (k:∀μ' ms us os,cF c vs as μ μ'->jA c as μ μ' ms us->K ms μ'.rs os->W c (call (.builtin id)<|ov::us) Q μ'):W c (Sv pos (.builtin id) [ov] (uW pos<|qV es c.env) []) Q μ:=by
 refine Calls.callWith_builtin (Nh H).1 ?_
 have main:W c (R7<|uW pos (qV es c.env)) (λus aA=>aT (bH c.prog c.w) c.A (call (.builtin id)<|ov::us) Q No aA) μ:=yH H n h λμ₁ ms us os T ts h=>k μ₁ ms us os T ts.1 h
 cases H with
 |nil=>exact aiT (k μ [] [] os n.ft .nil h)|cons h1 h2=>
  rw[js h1.2] at main ⊢
  exact Calls.evalArgs_plain main
theorem aey{prog:cC}{w:dv}{K:Type}[DecidableEq K]{knd:xG prog w K}{h:aI}{a:aP}{bc:af (K×aB)}(x:h.DictOf knd a bc):∃ob,h.get? a=ab ob/\ob.dict=aw:=
 x.elim λo x=>x.elim λ_ x=>x.elim λ_ x=>⟨o,x.1,x.2.1.2.1⟩
theorem wQ{o:MV}{rs:Rs}{p:ai×af V}(e:wR o rs=ab p):o=.ref p.1/\fo rs p.1=.ah p.2:=by
 cases o with
 |ref j=>exact map.on e λxs e1 e2=>e2▸⟨rfl,B4 e1⟩|_=>exact cO e
theorem N5{o:MV}{rs:Rs}{p:ai×af V}(e:N6 o rs=ab p):o=.bM p.1/\∃q,kK (fo rs p.1)=ab q/\q.2=p.2:=by
 cases o with
 |bM j=>exact map.on e λq e1 e2=>e2▸⟨rfl,q,e1,rfl⟩|_=>exact cO e
theorem ym{o:MV}{rs:Rs}{p:ai×af (aq×V)}(e:A9 o rs=ab p):o=.vars p.1/\∃q,kK (fo rs p.1)=ab q/\q.1=p.2:=by
 cases o with
 |vars j=>exact map.on e λq e1 e2=>e2▸⟨rfl,q,e1,rfl⟩|_=>exact cO e
noncomputable def NJ:Me->String
 | .append=>"list.append"| .kU=>"list.extend"| .p9=>"list.pop"| .nW=>"list.pop"| .nr=>"dict.get"| .join=>"str.join"
theorem abf{mm:Me}{m:MV}{ov:aB}{trees:af (az×eD aB)}{Q:aB->aZ->Prop}(n:cG c vs as μ)(hk:Gz mm m μ.rs=ae)(t:MR μ.g as m ov)(hc:W c (Sv pos (.builtin<|NJ mm) [ov] trees []) Q μ):
  MethodOn c.prog c.w c.A (Gb mm) pos ov trees Q No (c.st μ):=by
 have ah:∀(b:aP)(xs:af V),ov=.ref b->fx μ.g μ.h b xs->(c.st μ).TypeIs ov "list"/\∀a,ov=.ref a->∃ob,μ.h.get? a=ab ob/\ob.dict=aw:=λb xs e L=>
  L.elim λitems q=>q.elim λm q=>e▸⟨⟨_,q.1,rfl⟩,λa e=>SF e▸⟨_,q.1,rfl⟩⟩
 have l1:(wR m μ.rs).isSome=ae->(c.st μ).TypeIs ov "list"/\∀a,ov=.ref a->∃ob,μ.h.get? a=ab ob/\ob.dict=aw:=λh=>some.on h λp e=>
  (show MR μ.g as (.ref p.1) ov from(wQ e).1▸t).elim λa q=>ah a.1 _ q.2 (n.rel.ah q.1<|ay mx (wQ e).2)
 cases mm with
 |append=>
  have z:(c.st μ).TypeIs ov "list"/\∀a,ov=.ref a->∃ob,μ.h.get? a=ab ob/\ob.dict=aw:=(q5.mp hk).elim l1 λh=>some.on h λp e=>
   (N5 e).2.elim λy z=>(show MR μ.g as (.bM p.1) ov from(N5 e).1▸t).elim λa q=>ah a.2.2 _ q.2 (n.rel.st q.1 z.1).2
  exact⟨"list","list.append",Jb,R8,type_list_append,z.1,z.2,hc⟩
 |kU=>exact⟨"list","list.extend",Jb,SM,F.type_list_extend,(l1 hk).1,(l1 hk).2,hc⟩|p9=>exact⟨"list","list.pop",Jb,Ja,aiB,(l1 hk).1,(l1 hk).2,hc⟩|nW=>exact⟨"list","list.pop",Jb,Ja,aiB,(l1 hk).1,(l1 hk).2,hc⟩|nr=>exact some.on hk λp e=>(ym e).2.elim λy z=>(show MR μ.g as (.vars p.1) ov from(ym e).1▸t).elim λa q=>(n.rel.st q.1 z.1).1.elim λkv hd=>
   q.2▸⟨"dict","dict.get",F.plainAttrs_dict,aiF,F.type_dict_get,hd.1.mapOf.typeIs,(λa e=>SF e▸aey hd.1),q.2▸hc⟩
 |join=>exact some.on hk λp e=>bind.on e λd e1 e2=>(show Rd μ.g ov (.str p) from s5 e2▸(show MR μ.g as (.val d) ov from rm e1▸t)).yr.elim λtk q=>
   q▸⟨"str","str.join",F.plainAttrs_str,F.slot_str_join,F.type_str_join,R5 _ _ _,(λ_ e=>nomatch e),q▸hc⟩
theorem abg{mm:Me}{m:MV}{ov:aB}{rs:Rs}(hk:Gz mm m rs=ae)(t:TM c as μ μ₁ m ov):MR μ₁.g as m ov:=by
 cases m with
 |own r=>cases mm<;>cases hk|_=>exact t
theorem eh.bh{prog:cC}{w:dv}{g h h₀:aI}{ms:af MV}{us:af aB}{m:MV}{P:af aB->Prop}(ts:eh prog w g h as h₀ ms us)(e:bh ms=ab m)(k:∀u h₁,TR prog w g h h₀ h₁ as m u->P [u]):P us:=by
 cases ms with
 |nil=>exact cO e|cons a ms=>
  exact ts.on (P:=P) λh₁ u us t hd ts=>by
   cases ms with
   |nil=>exact ts.BZ▸k u h₁ (cq e▸t)|cons _ _=>exact cO e
theorem eh.KL{prog:cC}{w:dv}{g h h₀:aI}{ms:af MV}{us:af aB}{p:MV×MV}{P:af aB->Prop}(ts:eh prog w g h as h₀ ms us)(e:bU ms=ab p)(k:∀u u' h₁ cH,TR prog w g h h₀ h₁ as p.1 u->(∀b,h₁.get? b=aw->h₀.get? b=aw)->TR prog w g h h₁ cH as p.2 u'->P [u,u']):P us:=by
 cases ms with
 |nil=>exact cO e|cons a ms=>exact map.on e λb e1 e=>ts.on (P:=P) λh₁ u us t hd ts=>ts.bh (P:=λus=>P<|u::us) e1 λu' ez t'=>by cases e;exact k u u' _ _ t hd t'
theorem eh.bU{prog:cC}{w:dv}{g h h₀:aI}{ms:af MV}{us:af aB}{p:MV×MV}{P:af aB->Prop}(ts:eh prog w g h as h₀ ms us)(e:bU ms=ab p)(k:∀u u' h₁ cH ez GW,TR prog w g h h₁ cH as p.1 u->TR prog w g h ez GW as p.2 u'->P [u,u']):P us:=
 ts.KL e λu u' _ _ t _ t'=>k u u' _ _ _ _ t t'
theorem eh.zero{prog:cC}{w:dv}{g h h₀:aI}{ms:af MV}{us:af aB}{p:Unit}{P:af aB->Prop}(ts:eh prog w g h as h₀ ms us)(e:zero ms=ab p)(k:P []):P us:=(JC e▸ts:eh prog w g h as h₀ [] us).BZ▸k
theorem TR.rd{g h h₀ h₁:aI}{m:MV}{v:aB}{d:V}(t:TR c.prog c.w g h h₀ h₁ as m v)(e:fz m=ab d):Rd g v d:=show TR c.prog c.w g h h₀ h₁ as (.val d) v from rm e▸t
theorem uk{p:Prop}[Decidable p]{α:Type}{x:aD α}{b:α}(e:(if p then x else aw)=ab b):p/\x=ab b:=
 if h:p then⟨h,(a9 h).symm.trans e⟩ else cO ((br h).symm.trans e)
theorem M9{g:aI}{v:aB}(p:v=.none):Rd g v .none:=p▸Rd.none
theorem aax{mm:Me}{m:MV}{ms:af MV}{ov:aB}{us:af aB}{p:MV×Rs}{Q:aB->aZ->Prop}(n:cG c vs as μ)(T:cF c vs as μ μ₁)(t:MR μ₁.g as m ov)(ts:jA c as μ μ₁ ms us)(e:iQ mm m ms μ₁.rs=ab p)
  (k:∀g h tk v,cF c vs as μ ⟨g,h,p.2,tk⟩->TM c as μ ⟨g,h,p.2,tk⟩ p.1 v->Q v (c.st ⟨g,h,p.2,tk⟩)):W c (call (.builtin<|NJ mm)<|ov::us) Q μ₁:=by
 have val:∀{t:eD aB}{d:V}{vY:Rs},(MV.val d,vY)=p->aT (bH c.prog c.w) c.A t (jV c.prog c.w μ₁.g (c.st μ₁) μ₁.rs as vY λg' _ x=>Rd g' x d) No (c.st μ₁)->W c t Q μ₁:=λe H=>T.aQ.post H λg h tk v bo r=>(e▸k g h tk v) (T.trans bo) r
 cases mm with
 |append=>
  exact bind.on e λa e1 e=>bind.on e λp' e2 e=>map.on e λvY e3 e=>eh.bh (P:=λus=>W c (call (.builtin "list.append")<|ov::us) Q μ₁) ts e1 λu h' tr=>(PF tr T.aQ.rel e2<|n.alloc T).elim λg z=>
   have bo:cF c vs as μ ⟨g,μ₁.h,p'.2,μ₁.tk⟩:=n.go (μ':=⟨g,μ₁.h,p'.2,μ₁.tk⟩) (T.st.up z.1 T.sub) z.2.1 λb hb=>T.sub b (z.2.2.2 b hb)
   bo.aQ.post (ZP bo.aQ.rel (t.aU z.1.gg) z.2.2.1 e3) λg h tk v dC r=>(e▸k g h tk v) (bo.trans dC) (M9 r)
 |kU=>
  exact bind.on e λa e1 e=>bind.on e λd e2 e=>bind.on e λds e3 e=>map.on e λvY e4 e=>eh.bh (P:=λus=>W c (call (.builtin "list.extend")<|ov::us) Q μ₁) ts e1 λu h' tr=>
   T.aQ.post (ZL T.aQ.rel t (vK T.aQ.rel tr e2) e3 e4) λg h tk v dC r=>(e▸k g h tk v) (T.trans dC) (M9 r)
 |p9=>
  exact bind.on e λ_ e1 e=>bind.on e λp e2 e=>map.on (uk e).2 λd e3 e'=>eh.zero (P:=λus=>W c (call (.builtin "list.pop")<|ov::us) Q μ₁) ts e1 (val e'<|ZE T.aQ.rel ((wQ e2).1▸t) (wQ e2).2 (uk e).1 e3)
 |nW=>
  exact bind.on e λa e1 e=>bind.on e λd e2 e=>bind.on e λj e3 e=>bind.on e λp e4 e=>map.on (uk e).2 λx e5 e'=>eh.bh (P:=λus=>W c (call (.builtin "list.pop")<|ov::us) Q μ₁) ts e1 λu h' tr=>
   val e' (ZD T.aQ.rel ((wQ e4).1▸t) (qu e3▸TR.rd tr e2) (wQ e4).2 (uk e).1.1 (uk e).1.2 e5)
 |nr=>
  exact bind.on e λq e1 e=>bind.on e λa e2 e=>bind.on e λs e3 e=>bind.on e λd e4 e=>map.on e λp e5 e=>(ym e5).2.elim λy z=>eh.bU (P:=λus=>W c (call (.builtin "dict.get")<|ov::us) Q μ₁) ts e1 λu u' _ _ _ _ tr UU=>
   val (z.2▸e) (ZK T.aQ.rel ((ym e5).1▸t) (s5 e3▸TR.rd tr e2) (TR.rd UU e4) z.1)
 |join=>
  exact bind.on e λa e1 e=>bind.on e λd e2 e=>bind.on e λsep e3 e=>bind.on e λd' e4 e=>bind.on e λxs e5 e=>bind.on e λys e6 e=>eh.bh (P:=λus=>W c (call (.builtin "str.join")<|ov::us) Q μ₁) ts e1 λu h' tr=>
   val (eC e).2 (ZJ T.aQ.rel (s5 e3▸(show MR μ₁.g as (.val d) ov from rm e2▸t)) (Gi e5▸vK T.aQ.rel tr e4) e6 (eC e).1.1 (eC e).1.2)
theorem aaw{mm:Me}{p:eJ}{es:af aX}{xs:af X}(hb:∀name,aia e name c.env (eR e c.env)=eR e c.env)(He:Sx c e x)(H:a7 (Sy c) es xs)(hz:xs.length<10):
  Sx c (.Call (.Attribute e (Gb mm) {p with endLine:=pos.line}) es [] pos) (.bw mm x xs):=λvs as μ os K Q n h k=>by
 have acA:((uW pos<|qV es c.env).all (λx=>!x.1)&&(backToKw pos<|ah1 [] c.env).all (λx=>x.1.isSome)&&decide (es.length+([]:af I6).length+(if([]:af I6).isEmpty then 0 else 1)<30))=ae:=by
  rw[(Nh H).2,gQ (show es.length+([]:af I6).length+(if([]:af I6).isEmpty then 0 else 1)<30 by rw[H.length];exact j1 (show xs.length+0+0<10 from hz) aa)]
  rfl
 refine wpAny_Call_method_late (hb _) acA (beq_self_eq_true pos.line) rfl (He n h λμ₁ m ov os T t h=>b4.on h λu e1 h=>?_)
 have tm:=abg (A6 e1) t
 exact abf T.aQ (A6 e1) tm (aay H T.aQ h λμ₂ ms us os bo ts h=>dB.on h λq os e h=>aax n (T.trans bo) (tm.aU bo.st.gg) (ts.jJ T) e λg h' tk v dC r=>k _ _ _ _ dC r h)
end
theorem wK{α:Type}[DecidableEq α]{l:af α}:nh l=ae->l.Nodup:=by
 induction l with
 |nil=>exactλ_=>.nil|cons x xs ih=>exactλh=>j3.mpr ⟨λq=>q6 ((List.contains_iff_mem.mpr q).symm.trans<|(pF _).mp (dc.mp h).1),ih (dc.mp h).2⟩
section
variable{c:Cx}{x y z:X}{e e' jv:aX}{pos:eJ}{vs:Vs}{as:af Ad}{μ μ₁ μ₂:Mo}
variable{K:Type}[DecidableEq K]{knd:xG c.prog c.w K}
def Df(c:Cx){K:Type}[DecidableEq K](knd:xG c.prog c.w K)(ke:aD aX)(k:K):Prop:=
 ∃e,ke=ab e/\∀(vs:Vs)(as:af Ad)(μ:Mo)(Q:aB->aZ->Prop),cG c vs as μ->(∀v tk,cF c vs as μ ⟨μ.g,μ.h,μ.rs,tk⟩->knd.is k v=ae->Q v (c.st ⟨μ.g,μ.h,μ.rs,tk⟩))->W c (eR e c.env) Q μ
theorem GC:∀(ks:af aq)(os:af (aD aX)),a7 (Df c<|iT c.prog c.w) (n4 ks os) ks
 |[],_=>.nil|k::ks,os=>.cons ⟨_,rfl,λ_ _ μ _ n q=>Dr<|q _ (μ.tk+1) (n.jH _) (Du c.prog c.w _ _)⟩ (GC ks os.tail)
theorem Oz:∀(ks:af aH)(os:af (aD aX)),a7 (Df c<|IU c.prog c.w) (Cc ks os) ks
 |[],_=>.nil|k::ks,os=>.cons ⟨_,rfl,λ_ _ μ _ n q=>fQ n λtk T t=>q _ tk T<|intKind_is c.prog c.w _ _⟩ (Oz ks os.tail)
theorem Y1{mz:af (aD aX)}{ks:af K}(Hk:a7 (Df c knd) mz ks):∀{es:af aX}{xs:af X},a7 (Sy c) es xs->ks.length=xs.length->
  Go c (evalPairs<|pairTrees mz es c.env pos) (mZ c.C c.cb xs) λas μ μ' ms p8=>∃us,jA c as μ μ' ms us/\Carries knd p8 (ks.zip us)/\us.length=ks.length:=by
 induction Hk with
 |nil=>
  intro es xs H hl
  cases H with
  |nil=>exactλ_ _ _ _ _ _ n h k=>pairTrees_nil_walk (k _ [] [] _ n.ft ⟨[],.nil,trivial,rfl⟩ h)|cons _ _=>cases hl
 |cons hk hks ih=>
  intro es xs H hl
  cases H with
  |nil=>cases hl|cons h1 h2=>
   intro vs as μ os K' Q n h k
   obtain⟨e,rfl,hq⟩:=hk
   refine pairTrees_cons_walk (hq vs as μ _ n λv tk xt hv=>h1.1 xt.aQ h λμ₁ m u os T t h=>?_)
   exact ih h2 (DL hl) (Q:=λp8 s=>_) T.aQ h λμ₂ ms p8 os bo p h=>p.elim λus p=>k μ₂ (m::ms) _ os (xt.trans<|T.trans bo) ⟨u::us,(jA.cons xt.aQ T t bo p.1).jJ xt,⟨hv,rfl,p.2.1⟩,ay (·+1) p.2.2⟩ h
theorem vS{g h h':aI}{d:aP}(l:Le g h)(hg:g.get? d=aw)(sb:jD d h h')(hs:(h'.get? d).isSome=ae):Step g h [d] g h':=
 ⟨.refl _,λb o e=>(sb.2 b λq=>gK (q▸e) hg).trans (l b o e),λb o e q=>(sb.2 b λz=>q<|cU.mpr z).trans e,λb _ e n=>gK e n,λb e=>pE (λq:b=d=>qg (q▸hs) e) λq=>(sb.2 b q).symm.trans e⟩
theorem iO{α:Type}{x:aD α}{P:Prop}(h:x=aw)(e:x.isSome=ae):P:=by rw[h] at e;cases e
theorem cF.Ia{cH:aI}{d:aP}(T:cF c vs as μ μ₁)(n:cG c vs as μ)(tk:ai)(hd:μ.h.get? d=aw)(hg:μ₁.g.get? d=aw)(sb:jD d μ₁.h cH)(hs:(cH.get? d).isSome=ae):cF c vs as μ ⟨μ₁.g,cH,μ₁.rs,tk⟩:=
 have st:=vS T.aQ.le hg sb hs
 n.go (μ':=⟨μ₁.g,cH,μ₁.rs,tk⟩) (T.st.trans st λx hx=>.inr (by rw[cU.mp hx];exact hd)) (T.aQ.rel.step st λb hb q=>iO hd (by rw[<-cU.mp q];exact n.alloc T b hb)) T.sub
noncomputable abbrev xi(μ:Mo):Mo:=⟨μ.g,μ.h.push {cls:=.type "dict",data:=.dict #[]},μ.rs,μ.tk⟩
theorem xh(n:cG c vs as μ):cF c vs as μ (xi μ):=n.fm _ (gI _ _)
theorem F0(n:cG c vs as μ)(T:cF c vs as (xi μ) μ₁):μ₁.g.get? μ.h.objs.size=aw:=
 T.st.ck (n.le.none<|fN _) (by rw[lz _ rfl];rfl) λq=>iO (fN _) (n.rel.alloc q)
theorem H0{mz:af (aD aX)}{ks:af K}{es:af aX}{xs:af X}{os:Os}{K':af MV->Rs->Os->Prop}{Q:aB->aZ->Prop}(Hk:a7 (Df c knd) mz ks)(H:a7 (Sy c) es xs)(hl:ks.length=xs.length)(h0:ks≠[])(hz:ks.length<=15)(hn:ks.Nodup)
  (n:cG c vs as μ)(h:mZ c.C c.cb xs μ.rs vs os K')
  (k:∀μ₁ cH tk ms us os,cF c vs as (xi μ) μ₁->jA c as (xi μ) μ₁ ms us->jD μ.h.objs.size μ₁.h cH->cH.DictOf knd μ.h.objs.size (ks.zip us)->K' ms μ₁.rs os->Q (.ref μ.h.objs.size) (c.st ⟨μ₁.g,cH,μ₁.rs,tk⟩)):W c (eR (.Dict mz es pos) c.env) Q μ:=by
 have Cv:=Hk.length
 have oY:mz.all (·.isSome)=ae:=by
  clear Cv hl h0 hz hn k
  induction Hk with
  |nil=>rfl|cons h _ ih=>obtain⟨e,rfl,_⟩:=h;exact ih
 have xt:=xh n
 refine wpAny_Dict_walk (knd:=knd) oY (Cv.trans<|hl.trans H.length.symm) (λq=>h0<|ajq.mp (by rw[<-Cv,q];rfl)) (Cv▸hz) ?_
 refine Y1 (pos:=pos) Hk H hl xt.aQ h λμ₁ ms p8 os T p h=>p.elim λus p=>⟨ks.zip us,p.2.1,DictOf.at (SK μ.h) λo eo=>T.st.frame _ _ eo λq=>iO (fN _) (n.rel.alloc q),λcH hd sb=>?_⟩
 rw[Sk _ (by rw[ajl<|bA p.2.2.symm];exact hn)] at hd
 exact k μ₁ cH _ ms us os T p.1 sb hd h
theorem TM.yR{r:bP}{a:aP}(hr:r≠.cA)(hf:foot (a,0,0) r=[a])(R:ip c.prog c.w μ₁.g μ₁.h (a,0,0) r)(hg:μ₁.g.get? a=aw)(h0:μ.h.get? a=aw)(h1:(μ₁.h.get? a).isSome=ae)(hs:a≠jl):TM c as μ μ₁ (.own r) (.ref a):=
 ⟨hr,(a,0,0),rfl,R,hf▸S5 _ _,λb hb=>by rw[hf] at hb;rw[cU.mp hb];exact⟨hg,h0,h1,hs⟩⟩
theorem aeB{ks:af aq}{os:af (aD aX)}{es:af aX}{xs:af X}(H:a7 (Sy c) es xs)(hl:ks.length=xs.length)(h0:ks≠[])(hz:ks.length<=15)(hn:nh ks=ae):Sx c (.Dict (n4 ks os) es pos) (.fb ks xs):=λvs as μ os K Q n h k=>
 H0 (knd:=iT c.prog c.w) (GC ks _) H hl h0 hz (wK hn) n h λμ₁ cH tk ms us os T ts sb hd h=>b4.on h λp e h=>(ts.keep (xh n).aQ T e).elim λg q=>
  have hg:=F0 n q.1
  k ⟨g,cH,p.2,tk⟩ _ _ _ (((xh n).trans q.1).Ia n tk (fN _) hg sb<|DictOf.some hd) (TM.yR (r:=.fb _) nofun rfl ⟨_,hd,a7.zip q.2.1 ks⟩ hg (fN _) (DictOf.some hd) n.bU.qA) h
theorem aeF{ks:af aH}{os:af (aD aX)}{es:af aX}{xs:af X}(H:a7 (Sy c) es xs)(hl:ks.length=xs.length)(h0:ks≠[])(hz:ks.length<=15)(hn:nh ks=ae):Sx c (.Dict (Cc ks os) es pos) (.jg ks xs):=λvs as μ os K Q n h k=>
 H0 (knd:=IU c.prog c.w) (Oz ks _) H hl h0 hz (wK hn) n h λμ₁ cH tk ms us os T ts sb hd h=>b4.on h λp e h=>(ts.keep (xh n).aQ T e).elim λg q=>
  have hg:=F0 n q.1
  k ⟨g,cH,p.2,tk⟩ _ _ _ (((xh n).trans q.1).Ia n tk (fN _) hg sb<|DictOf.some hd) (TM.yR (r:=.jg _) nofun rfl ⟨_,hd,a7.zip q.2.1 ks⟩ hg (fN _) (DictOf.some hd) n.bU.qA) h
theorem aeC{r:bP}{bc:af (aq×V)}(e:Qn r=ab bc):r=.fb bc:=by
 cases r with
 |fb _=>exact ay _ (cq e)|_=>exact cO e
theorem aeD{m:MV}{bc:af (aq×V)}(e:Qo m=ab bc):m=.own (.fb bc):=bind.on e λr e1 e2=>aeC e2▸MN e1
theorem aaJ{m:MV}{xs:af V}(e:NQ m=ab xs):m=.own (.ah xs):=bind.on e λr e1 e2=>B4 e2▸MN e1
theorem eh.cx{prog:cC}{w:dv}{g h h₀:aI}{ms:af MV}{us:af aB}{p:MV×MV×MV×MV}{P:af aB->Prop}(ts:eh prog w g h as h₀ ms us)(e:cx ms=ab p)
  (k:∀sU vL Bb Ba h₁ cH k₁ k₂ Ov Ou,TR prog w g h h₀ h₁ as p.1 sU->(∀b,h₁.get? b=aw->h₀.get? b=aw)->TR prog w g h h₁ cH as p.2.1 vL->TR prog w g h k₁ k₂ as p.2.2.1 Bb->TR prog w g h Ov Ou as p.2.2.2 Ba->P [sU,vL,Bb,Ba]):P us:=by
 cases ms with
 |nil=>exact cO e|cons a ms=>
  exact ts.on (P:=P) λh₁ sU us fL d ts=>by
   cases ms with
   |nil=>exact cO e|cons b ms=>exact map.on e λq e1 e=>ts.on (P:=λus=>P<|sU::us) λcH vL us fA _ ts=>ts.bU (P:=λus=>P<|sU::vL::us) e1 λBb Ba _ _ _ _ UM yn=>by cases e;exact k sU vL Bb Ba _ _ _ _ _ _ fL d fA UM yn
theorem TR.int{prog:cC}{w:dv}{g h h₀ h₁:aI}{m:MV}{v:aB}{i:aH}(t:TR prog w g h h₀ h₁ as m v)(e:zp m=ab i):∃k,v=.int i k:=bind.on e λd e1 e2=>(show Rd g v (.int i) from qu e2▸(show TR prog w g h h₀ h₁ as (.val d) v from rm e1▸t)).wY
theorem Vm{os:af (aD aX)}{es:af aX}{xs:af X}(H:a7 (Sy c) es xs)(hl:xs.length=4):Sx c (.Dict (n4 [ze,zg,rW,zf] os) es pos) (.yq xs):=λvs as μ os K Q n h k=>
 H0 (knd:=iT c.prog c.w) (GC _ _) H hl.symm nofun aa (by decide+kernel) n h λμ₁ cH tk ms us os T ts sb hd h=>b4.on h λm e hK=>
  have hg:=F0 n T
  have Pj:((xi μ).h.get? μ.h.objs.size).isSome=ae:=ay sM (lz _ rfl)
  have O4:=gI μ.h {cls:=.type "dict",data:=.dict #[]}
  bind.on e λq e0 e=>bind.on e λbc e1 e=>bind.on e λxS e2 e=>bind.on e λt e3 e=>map.on e λsd e4 e=>eh.cx (P:=λus=>cH.DictOf (iT c.prog c.w) μ.h.objs.size ([ze,zg,rW,zf].zip us)->Q (.ref μ.h.objs.size) (c.st ⟨μ₁.g,cH,μ₁.rs,tk⟩)) ts e0
   (λua ub uc ud k₁ k₂ Ov Ou ajO ajN ta CA tb tc td hd=>(tc.int e3).elim λfL zc=>(td.int e4).elim λfA zd=>
    (show TR c.prog c.w μ₁.g μ₁.h (xi μ).h k₁ as (.own<|.fb bc) ua from aeD e1▸ta).2.elim λva a=>(show TR c.prog c.w μ₁.g μ₁.h k₁ k₂ as (.own<|.ah xS) ub from aaJ e2▸tb).2.elim λvb b=>
     have ha:=a.2.2.2 va.1 (.head _)
     have hb:=b.2.2.2 vb.1 (.head _)
     have da:va.1≠μ.h.objs.size:=λq=>iO ha.2.1 (q▸Pj)
     have db:vb.1≠μ.h.objs.size:=λq=>iO (CA _ hb.2.1) (q▸Pj)
     have dab:va.1≠vb.1:=λq=>iO hb.2.1 (q▸ha.2.2.1)
     have L5:om c.prog c.w μ₁.g cH va.1 bc:=om.step a.2.1 (.refl _) λo e=>(sb.2 _ da).trans e
     have L3:fx μ₁.g cH vb.1 xS:=fx.step b.2.1 (.refl _) λo e=>(sb.2 _ db).trans e
     have ab:=DictOf.some hd
     k _ m _ _ (((xh n).trans T).Ia n tk (fN _) hg sb ab) (e▸⟨nofun,(μ.h.objs.size,va.1,vb.1),rfl,⟨⟨fL,fA,by rw[a.1,b.1,zc,zd] at hd;exact hd⟩,L5,L3⟩,
      j3.mpr ⟨λq=>(dX.mp q).elim (λq=>da q.symm) λq=>db (cU.mp q).symm,j3.mpr ⟨λq=>dab (cU.mp q),S5 _ _⟩⟩,
      λx hx=>(dX.mp hx).elim (λq=>q▸⟨hg,fN _,ab,n.bU.qA⟩) λhx=>(dX.mp hx).elim (λq=>q▸⟨ha.1,O4.none ha.2.1,L5.elim λ_ q=>DictOf.some q.1,ha.2.2.2⟩)
       λhx=>cU.mp hx▸⟨hb.1,O4.none (CA _ hb.2.1),L3.some,hb.2.2.2⟩⟩) hK) hd
end
section
variable{prog:cC}{w:dv}{A:fJ}{E:aB->aZ->Prop}{s:aZ}
variable{K:Type}[DecidableEq K]{knd:xG prog w K}
theorem YF{d:aP}{bc:af (K×aB)}{k:K}{key v:aB}{Q:Unit->aZ->Prop}(w7:knd.is k key=ae)(hm:s.heap.DictOf knd d bc)
  (hQ:∀h',h'.DictOf knd d (uU bc k v)->jD d s.heap h'->Q () {s with heap:=h'})(hsz:bc.length<=jm):aT (bH prog w) A (Sq d (knd.hash k) key v) Q E s:=by
 obtain⟨o,es,ep,ho,hc,hd,hk,hp,hn⟩:=hm
 have hes:es.size<=jm:=by
  have e1:=hp.length
  have e2:es.toList.length=es.size:=by simp
  omega
 unfold Sq
 refine aY (wpAny_dictFind_of w7 ho hd hk ?_)
 have hl:(es.toList.findIdx? λe=>knd.is k e.key)=es.findIdx? λe=>knd.is k e.key:=by obtain⟨l⟩:=es;simp
 have Pa:(es.findIdx? λe=>knd.is k e.key)=bc.findIdx? λkv=>decide (kv.1=k):=by rw[<-hl,hp.findIdx k]
 cases hi:es.findIdx? λe=>knd.is k e.key with
 |some i=>
  have zA:(bc.any λkv=>decide (kv.1=k))=ae:=any_of_findIdx_some (Pa▸hi)
  refine wpAny_updateDict ho hd (hQ _ ⟨_,_,ep,I7 _ ho (ait<|aiw hd _),hc.mapDict _,aiw hd _,hk.modify _ _,?_,?_⟩<|DH ..)
  ·rw[uU,a9 zA]
   have:=hp.modify hn (hl.trans hi) v
   obtain⟨l⟩:=es
   simpa using this
  ·rw[uU,a9 zA,keys_map_store];exact hn
 |none=>
  have O7:k∉bc.map (·.1):=not_mem_of_findIdx_none (Pa▸hi)
  have zA:¬ (bc.any λkv=>decide (kv.1=k))=ae:=λh=>by
   obtain⟨kv,qy,he⟩:=DU.mp h
   exact O7 (eE.mpr ⟨kv,qy,eV he⟩)
  refine wpAny_updateDictKeys (hz:=hes) ho hd (hQ _ ⟨_,_,ep+1,I7 _ ho (ait<|aiv hd _),hc.mapDictKeys _,aiv hd _,hk.push w7 _,?_,?_⟩<|DH ..)
  ·rw[uU,br zA]
   have:=hp.append w7 (knd.hash k) v
   obtain⟨l⟩:=es
   simpa using this
  ·rw[uU,br zA,Az,ow]
   exact⟨hn,by simp,λa ha b hb e=>O7 (by simp at hb;rw[<-hb,<-e];exact ha)⟩
theorem aaz{d a:aP}{bc more:af (K×aB)}{Q:Unit->aZ->Prop}(CA:d≠a)(ha:(a==jl)=ag)(hd:s.heap.DictOf knd d bc)(hm:s.heap.DictOf knd a more)(h0:bc≠[])
  (hQ:∀h',h'.DictOf knd d (xE bc more)->jD d s.heap h'->Q () {s with heap:=h'})(hsz:bc.length+more.length<=jm):aT (bH prog w) A (Sl d (.ref a) ag) Q E s:=by
 obtain⟨od,HU,epd,hod,hcd,Cz,hkd,hpd,Hf⟩:=id hd
 obtain⟨oo,es,ep,G9,w9,Cy,hk,hp,hn⟩:=id hm
 have hlen:more.length=es.size:=by rw[<-hp.length];simp
 have mC:HU.isEmpty=ag:=by
  cases q:HU.isEmpty with
  |false=>rfl|true=>
   have h1:HU=#[]:=Array.isEmpty_iff.mp q
   have:=hpd.length
   rw[h1] at this
   exact dk (ajq.mp<|by simpa using this.symm) h0
 unfold Sl
 refine aY (wpAny_isInstance (T:="dict") hm.typeIs F.sub_dict_dict ?_)
 rw[a9 rfl]
 refine aY (IF hm.typeIs F.slot_dict_iter.lookup ?_)
 refine aY (b7 ?_)
 show aT _ _ (if(a==jl)=ae then _ else _) _ _ s
 rw[br (by rw[ha];exact ed)]
 refine aY (R1 hod Cz ?_)
 rw[br (by rw[mC];exact ed)]
 refine aY (R1 G9 Cy<|aY (ahL G9 Cy<|aY ?_))
 rw[List.range_eq_range']
 refine ahK _
  (λrest _ s'=>∃h' i,s'={s with heap:=h'}/\rest=ajf i (es.size-i)/\i<=es.size/\h'.DictOf knd d (xE bc<|more.take i)/\h'.get? a=ab oo/\jD d s.heap h')
  _ ?_ ?_ _ _ ⟨s.heap,0,rfl,by simp,bQ _,by simpa[xE] using hd,G9,SI _ _⟩
 ·rintro x rest b s' ⟨h',i,rfl,hr,hi,f6,G8,nq⟩
  have d6:i<es.size:=by
   rcases u5 i es.size with h|h
   ·exact h
   ·rw[SY h] at hr;simp at hr
  obtain⟨rfl,acm⟩:x=i/\rest=ajf (i+1) (es.size-(i+1)):=by
   have e:es.size-i=(es.size-(i+1))+1:=by omega
   rw[e,aje] at hr
   injection hr with h1 h2
   exact⟨h1,h2⟩
  refine aY (R1 G8 Cy ?_)
  rw[JB d6]
  obtain⟨⟨k,v⟩,qy⟩:∃kv,more[x]?=ab kv:=⟨more[x]'(by rw[hlen];exact d6),Ti _⟩
  obtain⟨w7,ace⟩:=hp.get? (e:=es[x]) (by simp[d6]) qy
  obtain⟨k',acu,acy⟩:=hk es[x] (Array.getElem_mem d6)
  obtain rfl:k'=k:=knd.inj _ _ _ acu w7
  show aT _ _ (qW [es[x].key,es[x].val] (if ag=ae then _ else Sq d es[x].hash es[x].key es[x].val)>>=_) _ _ _
  rw[br ed,acy,ace]
  have hmx:(xE bc<|more.take x).length<=jm:=by
   have e1:=merged_length_le bc (more.take x)
   have e2:(more.take x).length<=more.length:=by rw[AA];omega
   omega
  refine aY (kB<|YF w7 f6 (λfv acD zu=>?_) hmx)
  have O5:fv.get? a=ab oo:=(zu.2 a<|Ne.symm CA).trans G8
  refine aY (ahL O5 Cy ?_)
  rw[br<|by simp]
  exact b7 ⟨fv,x+1,rfl,acm,d6,by rw[merged_take_succ bc more x (k',v) qy];exact acD,O5,nq.trans zu⟩
 ·rintro b s' ⟨h',i,rfl,hr,hi,f6,G8,nq⟩
  have Hn:i=es.size:=by
   rcases u5 i es.size with h|h
   ·have e:es.size-i=(es.size-(i+1))+1:=by omega
    rw[e,aje] at hr;exact nomatch hr
   ·exact Jm hi h
  refine b7 (hQ h' ?_ nq)
  rw[Hn,<-hlen,Jo] at f6;exact f6
end
section
variable{prog:cC}{w:dv}{A:fJ}{s:aZ}
def KT(prog:cC)(w:dv)(A:fJ)(t:eD aB)(k:aq):Prop:=∀(s:aZ)(Q:aB->aZ->Prop),(∀v tk,(iT prog w).is k v=ae->Q v {s with toks:=tk})->aT (bH prog w) A t Q No s
def CT(prog:cC)(w:dv)(A:fJ)(t:eD aB)(d:V):Prop:=∀(s:aZ)(Q:aB->aZ->Prop),(∀v tk,(∀g,Rd g v d)->Q v {s with toks:=tk})->aT (bH prog w) A t Q No s
def PT(prog:cC)(w:dv)(A:fJ)(p:eD aB×eD aB)(q:aq×V):Prop:=KT prog w A p.1 q.1/\CT prog w A p.2 q.2
def KV(p:aq×aB)(q:aq×V):Prop:=p.1=q.1/\∀g,Rd g p.2 q.2
theorem KV.mz{kv:af (aq×aB)}{bc:af (aq×V)}(h:a7 KV kv bc):kv.map (·.1)=bc.map (·.1):=by
 induction h with
 |nil=>rfl|cons h _ ih=>rw[mV,mV,h.1,ih]
theorem Qv:∀{run:af (eD aB×eD aB)}{data:af (aq×V)},a7 (PT prog w A) run data->∀(s:aZ)(Q:af (aB×aB)->aZ->Prop),
  (∀p8 kv tk,Carries (iT prog w) p8 kv->a7 KV kv data->Q p8 {s with toks:=tk})->aT (bH prog w) A (evalPairs run) Q No s
 |_,_,.nil,s,Q,h=>evalPairs_nil (by have:=h [] [] s.toks trivial .nil;exact this)|_,_,.cons h1 h2,s,Q,h=>evalPairs_cons (h1.1 s _ λv tk hv=>h1.2 _ _ λu yo hu=>Qv h2 _ _ λp8 kv U0 hc ha=>h _ ((_,u)::kv) U0 ⟨hv,rfl,hc⟩<|.cons ⟨rfl,hu⟩ ha)
theorem NY{d:aP}:∀{run:af (eD aB×eD aB)}{data:af (aq×V)},a7 (PT prog w A) run data->∀(s:aZ)(acc:af (aq×aB))(Q:PUnit->aZ->Prop),s.heap.DictOf (iT prog w) d acc->acc.length+data.length<=jm->
  (∀h' kv tk,a7 KV kv data->h'.DictOf (iT prog w) d (xE acc kv)->jD d s.heap h'->Q SU {s with heap:=h',toks:=tk})->
  aT (bH prog w) A (forIn run SU λ(x:eD aB×eD aB)(_:PUnit)=>(do let kv <-x.1;let vv <-qW [kv] x.2;qW [kv,vv] (dictSet d kv vv);pure (l9 SU):eD (ForInStep PUnit))) Q No s
 |_,_,.nil,s,acc,Q,hm,_,h=>by
  rw[List.forIn_nil]
  exact b7 (by have:=h s.heap [] s.toks .nil (by simpa[xE] using hm) (SI _ _);exact this)
 |_,_,.cons (x:=p) (y:=q) (ys:=data) h1 h2,s,acc,Q,hm,hz,h=>by
  rw[Jq] at hz
  rw[aju]
  refine aY (aY<|h1.1 s _ λv tk hv=>aY (kB<|h1.2 _ _ λu yo hu=>aY (kB<|wpAny_dictSet_pairs (hsz:=by omega) hv hm λh₁ acr uv=>b7 ?_)))
  refine NY h2 _ (uU acc q.1 u) Q acr (by have e:=stored_length_le acc q.1 u;omega) λh' kv tk ha qx nq=>?_
  exact h h' ((q.1,u)::kv) tk (.cons ⟨rfl,hu⟩ ha) (by simpa[xE] using qx) (uv.trans nq)
theorem K0{run:af (eD aB×eD aB)}{data:af (aq×V)}(H:a7 (PT prog w A) run data)(hn:(data.map (·.1)).Nodup)(hz:data.length<=100)(Q:aP->aZ->Prop)
  (h:∀h' kv tk,a7 KV kv data->h'.DictOf (iT prog w) s.heap.objs.size kv->jD s.heap.objs.size (s.heap.push {cls:=.type "dict",data:=.dict #[]}) h'->Q s.heap.objs.size {s with heap:=h',toks:=tk}):
  aT (bH prog w) A (IL run) Q No s:=by
 have hl:=H.length
 by_cases hs:run.length<=15
 ·refine wpAny_subDict (knd:=iT prog w) hs (Qv H _ _ λp8 kv tk hc ha=>⟨kv,hc,SK s.heap,λh' hm sb=>h h' kv _ ha ?_ sb⟩)
  rwa[Sk _ (by rw[KV.mz ha];exact hn)] at hm
 ·unfold IL
  refine aY (wpAny_alloc<|aY (kB ?_))
  rw[br hs]
  refine aY (Dp<|aY ?_)
  refine NY H _ [] _ (SK s.heap) (by rw[Sf,DR];omega) λh' kv tk ha hm sb=>?_
  refine b7 (b7<|h h' kv tk ha ?_ sb)
  rwa[Sk _ (by rw[KV.mz ha];exact hn)] at hm
def CJ(run:af (eD aB×eD aB))(main:aD aP):eD (aD aP):=
 if run.isEmpty=ae then pure main
 else match main with
  |none=>do
   let x <-IL run
   pure (ab x)
  |some d=>do
   let sub <-qW [sH d] (IL run)
   (qW [sH d,sH sub]<|Sl d (sH sub) ag).onRaise λx=>do
    let _ <-qW [sH d,x] (runValue<|Code.builtin "proto.let_go" {})
    pure ()
   pure (ab d)
def De(prog:cC)(w:dv)(h₀ h:aI)(main:aD aP)(done:af (aq×V)):Prop:=
 match main with
 |none=>done=[]|some d=>d=h₀.objs.size/\done≠[]/\∃kv,h.DictOf (iT prog w) d kv/\a7 KV kv done
theorem PN{run:af (eD aB×eD aB)}{main:aD aP}{data done:af (aq×V)}{h₀:aI}(l:Le h₀ s.heap)(hb:s.heap.objs.size≠jl)(H:a7 (PT prog w A) run data)(h0:run≠[])(hM:De prog w h₀ s.heap main done)
  (G4:main=aw->s.heap=h₀)(hn:((done++data).map (·.1)).Nodup)(hz:data.length<=100)(hz2:done.length<=1000)(Q:aD aP->aZ->Prop)
  (h:∀h' tk d,Le h₀ h'->d=h₀.objs.size->De prog w h₀ h' (ab d) (done++data)->Q (ab d) {s with heap:=h',toks:=tk}):
  aT (bH prog w) A (CJ run main) Q No s:=by
 have mC:data≠[]:=λq=>by subst q;cases H;exact h0 rfl
 have Hf:(data.map (·.1)).Nodup:=by rw[Az,ow] at hn;exact hn.2.1
 unfold CJ
 rw[br<|by simpa using h0]
 cases main with
 |none=>
  have hd:done=[]:=hM
  subst hd
  have:=G4 rfl
  subst this
  refine aY (K0 H Hf hz _ λh' kv tk ha hm sb=>b7 ?_)
  refine h h' tk _ (λb o e=>?_) rfl ⟨rfl,by simpa using mC,kv,hm,by simpa using ha⟩
  have hb:b≠s.heap.objs.size:=λq=>by subst q;rw[fN] at e;cases e
  rw[sb.2 b hb];exact gI _ _ _ _ e
 |some d=>
  obtain⟨rfl,acq,kv,hd,qy⟩:=hM
  have w8:h₀.objs.size≠s.heap.objs.size:=λq=>by
   have:=DictOf.some hd
   rw[q,fN] at this;cases this
  refine aY (kB<|K0 H Hf hz _ λh' kv' tk ha hm sb=>?_)
  have f6:h'.DictOf (iT prog w) h₀.objs.size kv:=DictOf.at hd λo e=>by rw[sb.2 _ w8];exact gI _ _ _ _ e
  have hl1:=qy.length
  have hl2:=ha.length
  refine aY (wpAny_onRaise<|kB (aaz w8 (by simpa using hb) f6 hm (λq=>by subst q;cases qy;exact acq rfl) (λfv acs WQ=>?_) (by rw[Sf];omega)))
  refine b7 (h fv tk _ (λb o e=>?_) rfl ⟨rfl,by simp[mC],kv++kv',?_,qy.append ha⟩)
  ·have hb1:b≠h₀.objs.size:=λq=>by subst q;rw[fN] at e;cases e
   have hb2:b≠s.heap.objs.size:=λq=>by have:=l _ _ e;rw[q,fN] at this;cases this
   rw[WQ.2 b hb1,sb.2 b hb2];exact gI _ _ _ _ (l _ _ e)
  ·rwa[merged_append_of_fresh _ _ (by rw[Az,KV.mz qy,KV.mz ha,<-Az];exact hn)] at acs
theorem aaX{wF:af (eD aB×eD aB)}{data:af (aq×V)}(bU:jz s.heap)(H:a7 (PT prog w A) wF data)(h0:wF≠[])(hn:(data.map (·.1)).Nodup)(hz:data.length<=1000)(Q:aB->aZ->Prop)
  (h:∀h' tk,Le s.heap h'->De prog w s.heap h' (ab s.heap.objs.size) data->Q (.ref s.heap.objs.size) {s with heap:=h',toks:=tk}):
  aT (bH prog w) A (ah6<|wF.map λp=>(ab p.1,p.2)) Q No s:=by
 unfold ah6
 refine aY ?_
 refine ahK _
  (λrest (st:aD aP×af (eD aB×eD aB)) s'=>∃h' tk done o4 qK pP,s'={s with heap:=h',toks:=tk}/\rest=pP.map (λp=>(ab p.1,p.2))/\a7 (PT prog w A) pP qK/\a7 (PT prog w A) st.2 o4/\data=done++o4++qK/\
   st.2.length<17/\Le s.heap h'/\De prog w s.heap h' st.1 done/\(st.1=aw->h'=s.heap))
  _ ?_ ?_ _ _ ⟨s.heap,s.toks,[],[],data,wF,rfl,rfl,H,.nil,rfl,by simp,.refl _,rfl,λ_=>rfl⟩
 ·rintro x rest ⟨main,run⟩ s' ⟨h',tk,done,o4,qK,pP,rfl,hr,hp,w6,oW,d6,l,hM,hN⟩
  cases hp with
  |nil=>simp at hr|@cons p q pP qK h1 h2=>
   rw[mV] at hr
   injection hr with hx hr
   subst hx
   subst hr
   have hl:=w6.length
   show aT _ _ (if((run++[(p.1,p.2)]).length==17)=ae then(CJ (run++[(p.1,p.2)]) main>>=λmain=>pure<|l9 (main,[])) else pure (l9 (main,run++[(p.1,p.2)]))) _ _ _
   have G5:a7 (PT prog w A) (run++[(p.1,p.2)]) (o4++[q]):=w6.vU h1
   have f6:data=done++(o4++[q])++qK:=by rw[oW];simp
   by_cases hc:(run++[(p.1,p.2)]).length=17
   ·rw[a9<|by simpa using hc]
    have hlen:data.length=done.length+(o4++[q]).length+qK.length:=by rw[f6];simp only [eX]
    refine aY (PN (s:={s with heap:=h',toks:=tk}) l (bU.le l).qA G5 (by simp) hM hN ?_ (by rw[<-G5.length,hc];omega) (by omega) _ λfv yo d l' Cz CC=>?_)
    ·rw[f6,Az,ow] at hn;exact hn.1
    ·exact b7 ⟨fv,yo,done++(o4++[q]),[],qK,pP,rfl,rfl,h2,.nil,by rw[f6];simp,by simp,l',CC,by simp⟩
   ·rw[br<|by simpa using hc]
    refine b7 ⟨h',tk,done,o4++[q],qK,pP,rfl,rfl,h2,G5,f6,?_,l,hM,hN⟩
    have ajR:run.length<17:=d6
    simp only [eX,Jq,DR] at hc ⊢
    omega
 ·rintro ⟨main,run⟩ s' ⟨h',tk,done,o4,qK,pP,rfl,hr,hp,w6,oW,d6,l,hM,hN⟩
  have:pP=[]:=by cases pP with
   |nil=>rfl|cons _ _=>simp at hr
  subst this
  cases hp
  rw[fy] at oW
  show aT _ _ (CJ run main>>=_) _ _ _
  by_cases O3:run=[]
  ·subst O3
   cases w6
   rw[fy] at oW
   subst oW
   refine aY (b7 ?_)
   cases main with
   |none=>
    have:data=[]:=hM
    subst this
    cases H;exact dk rfl h0
   |some d=>
    obtain⟨hd,hM2⟩:=id hM
    subst hd
    exact b7 (h h' tk l hM)
  ·have hlen:data.length=done.length+o4.length:=by rw[oW];simp
   have hl:=w6.length
   refine aY (PN (s:={s with heap:=h',toks:=tk}) l (bU.le l).qA w6 O3 hM hN (by rw[<-oW];exact hn) (by omega) (by omega) _ λfv yo d l' Cz CC=>?_)
   subst Cz
   rw[<-oW] at CC
   exact b7 (h fv yo l' CC)
end
section
variable{c:Cx}{x y z:X}{e e' jv:aX}{pos:eJ}{vs:Vs}{as:af Ad}{μ μ₁ μ₂:Mo}
theorem aeP{k:ai}{p:eJ}{d:V}(hd:ui d=ae):CT c.prog c.w c.A (do let x <-eR (.Constant (zN d) k p) c.env;IP pos;pure x) d:=λs Q h=>by
 cases d with
 |none=>exact aY (ahR<|aY (jW<|b7 (h _ s.toks λ_=>Rd.none)))|bool b=>exact aY (ahS<|aY (jW<|b7 (h _ s.toks λ_=>Rd.bool b)))|int i=>exact aY (R3<|aY (jW<|b7 (h _ _ λ_=>Rd.int i _)))|str x=>exact aY (Dr<|aY (jW<|b7 (h _ _ λ_=>Rd.str _ hd)))|_=>cases hd
theorem Vq{k:ai}{p:eJ}{x:aq}:KT c.prog c.w c.A (eR (.Constant (.str x) k p) c.env) x:=λs Q q=>Dr (q _ _ (Du c.prog c.w _ _))
theorem Qu:∀(bc:af (aq×V))(os:af (aD aX))(es:af aX),(bc.all λp=>fc p.1&&ui p.2)=ae->
  a7 (PT c.prog c.w c.A) (pairTrees (n4 (bc.map (·.1)) os) (zO (bc.map (·.2)) es) c.env pos) bc/\(n4 (bc.map (·.1)) os).all (·.isSome)=ae/\(n4 (bc.map (·.1)) os).length=(zO (bc.map (·.2)) es).length
 |[],_,_,_=>⟨.nil,rfl,rfl⟩
 |p::bc,os,es,h=>by
  rw[List.all_cons,q7,q7] at h
  obtain⟨h1,h2,h3⟩:=Qu bc os.tail es.tail h.2
  exact⟨.cons ⟨Vq (k:=kd<|wG os) (p:=(wG os).pos),aeP (k:=kd<|hd es) (p:=(hd es).pos) h.1.2⟩ h1,h2,ay (·+1) h3⟩
theorem aeE{bc:af (aq×V)}{os:af (aD aX)}{es:af aX}(h0:bc≠[]/\bc.length<=1000)(hn:nh (bc.map (·.1))=ae)(hc:(bc.all λp=>fc p.1&&ui p.2)=ae):
  Sx c (.Dict (n4 (bc.map (·.1)) os) (zO (bc.map (·.2)) es) pos) (.xj bc):=λvs as μ _ K Q n h k=>by
 obtain⟨H,oY,hl⟩:=Qu (c:=c) (pos:=pos) bc os es hc
 rw[arm_eval_Dict,zip_pairTrees _ _ c.env pos oY hl]
 refine aY (jW<|aaX n.bU H (λq=>h0.1 (by rw[q] at H;cases H;rfl)) (wK hn) h0.2 _ λh' tk l hM=>?_)
 exact hM.2.2.elim λkv q=>k ⟨μ.g,h',μ.rs,tk⟩ _ _ _ (n.fm tk l) (TM.yR (r:=.fb bc) nofun rfl ⟨kv,q.1,q.2.aU λp q h=>⟨h.1,h.2 μ.g⟩⟩ (n.le.none<|fN _) (fN _) (DictOf.some q.1) n.bU.qA) h
end
theorem ZW{h:aI}{a:aP}{m m':aq->aD aB}(x:h.Ns a m)(y:h.Ns a m'):m=m':=by
 obtain⟨o,es,ep,e1,e2,_,e3⟩:=x
 obtain⟨o',es',ep',f1,f2,_,f3⟩:=y
 rw[e1] at f1;cases f1
 rw[e2] at f2;cases f2
 funext n
 rw[<-e3 n,<-f3 n]
section
variable{prog:cC}{w:dv}{A:fJ}{s:aZ}
theorem Qi{it l:aP}{items:cT aB}(mC:l≠it):∀(n i:ai)(s:aZ)(Q:af aB->aZ->Prop),s.heap.IsListIter it l i->s.heap.IsList l items->i+n<=items.size->
  (∀h',h'.IsListIter it l (i+n)->jD it s.heap h'->Q ((items.toList.drop i).take n) {s with heap:=h'})->aT (bH prog w) A (draw (.ref it) n) Q No s
 |0,i,s,Q,g7,_,_,hQ=>by
  show aT _ _ (pure []) Q No s
  exact b7 (by simpa using hQ s.heap g7 (SI ..))
 |n+1,i,s,Q,g7,hl,hle,hQ=>by
  have d6:i<items.size:=by omega
  show aT _ _ (Dv (.ref it)>>=_) Q No s
  refine aY (ahD g7 hl (x:=items[i]) (by simp[d6]) λh₁ Hm uv=>?_)
  refine aY (kB<|Qi mC n (i+1) _ _ Hm (hl.extBut uv.extBut mC) (by omega) λcH acw acf=>b7 ?_)
  have hd:items.toList.drop i=items[i]::items.toList.drop (i+1):=by simp[List.drop_eq_getElem_cons,d6]
  have:=hQ cH (by rw[show i+(n+1)=i+1+n by omega];exact acw) (uv.trans acf)
  rw[hd,List.take_succ_cons] at this
  exact this
theorem UJ{l:aP}{items:cT aB}{Q:af aB->aZ->Prop}(hh:A.handled=aw)(hl:s.heap.IsList l items)
  (hQ:∀h',SJ s.heap.objs.size s.heap h'->Q items.toList {s with heap:=h'}):aT (bH prog w) A (Ds (.ref l) items.size aw) Q No s:=by
 have d6:l≠s.heap.objs.size:=by obtain⟨o,ho,_⟩:=hl;exact Aw (sI ho)
 unfold Ds
 refine aY ?_
 unfold notIterableAtAll
 refine aY (IF hl.typeIs slot_list_iter.lookup<|b7 ?_)
 rw[br<|by simp]
 refine aY (kB<|ahF hl ?_)
 have O9:(s.heap.push {cls:=.type "list_iterator",data:=.fields #[.ref l,.int 0 0]}).IsList l items:=IsList.le (gI _ _) hl
 refine aY (kB<|Qi d6 items.size 0 _ _ ⟨_,lz _ rfl,rfl,rfl⟩ O9 (by omega) λh₁ Hm uv=>?_)
 have oY:pA items.size (pD 0 items.toList)=items.toList:=by
  rw[Tl];exact DN (by simp)
 rw[oY,br<|by simp]
 refine aY (kB<|ahE hh Hm (O9.extBut uv.extBut d6) (by simp) λcH acB=>?_)
 rw[br<|by simp]
 exact b7 (hQ cH λb o hb e=>acB b o hb<|uv.extBut b o hb (gI _ _ b o e))
theorem UI{g:aI}{v:aB}{d:V}{ds:af V}{k:ai}{Q:af aB->aZ->Prop}(hh:A.handled=aw)(l:Le g s.heap)(r:Rd g v d)(hi:rY d=ab ds)(hk:ds.length=k)
  (hQ:∀h' bT,Le s.heap h'->a7 (Rd g) bT ds->Q bT {s with heap:=h'}):aT (bH prog w) A (Ds v k aw) Q No s:=by
 have ext:∀h',SJ s.heap.objs.size s.heap h'->Le s.heap h':=λh' he b o e=>he b o (λq=>by rw[q,fN] at e;cases e) e
 cases d with
 |list xs=>
  cases hi
  obtain⟨a,items,rfl,h1,h2⟩:=r.y6
  have hn:items.size=k:=by have:=h2.length;simp at this;omega
  rw[<-hn]
  exact UJ hh (IsList.le l h1) λh' he=>hQ h' _ (ext h' he) h2
 |tuple xs=>
  cases hi
  obtain⟨a,items,rfl,h1,h2⟩:=r.kG
  have hn:items.size=k:=by have:=h2.length;simp at this;omega
  rw[<-hn]
  exact ahw hh (IsTuple.le l h1) λh' he=>hQ h' _ (ext h' he) h2
 |none=>cases hi|bool _=>cases hi|int _=>cases hi|str _=>cases hi|dict _=>cases hi
variable{env:ff}{sc:Sc}{vs:Vs}{as:af Ad}
theorem lK{β:Type}{l:af (aq×β)}{a:aq}{b:β}(h:l.lookup a=ab b):(a,b)∈l:=by
 induction l with
 |nil=>simp at h|cons p l ih=>
  obtain⟨p1,p2⟩:=p
  rw[DQ] at h
  split at h
  ·rename_i q;cases h;have:a=p1:=by simpa using q
   subst this;exact gZ ..
  ·exact iE _ (ih h)
theorem QL{env:ff}(h:(gF env).Nodup){x y:aq}{c:aP}(hx:env.cells.lookup x=ab c)(hy:env.cells.lookup y=ab c):x=y:=by
 have h2:(env.cells.map (·.2)).Nodup:=(j3.mp h).2
 have key:∀l:af (aq×aP),(l.map (·.2)).Nodup->(x,c)∈l->(y,c)∈l->x=y:=by
  intro l
  induction l with
  |nil=>intro _ h;cases h|cons p l ih=>
   intro hn h1 h2
   simp only [mV,j3,eE,not_exists,not_and] at hn
   rcases dX.mp h1 with e1|e1
   ·rcases dX.mp h2 with e2|e2
    ·rw[<-e1] at e2;injection e2 with e3 _;exact e3.symm
    ·exact dk (by rw[<-e1]) (hn.1 _ e2)
   ·rcases dX.mp h2 with e2|e2
    ·exact dk (by rw[<-e2]) (hn.1 _ e1)
    ·exact ih hn.2 e1 e2
 exact key _ h2 (lK hx) (lK hy)
def Wr(env:ff)(sc:Sc)(W:af aP)(id:aq):Prop:=(sc.names.lookup id=ab .local->env.locals∈W)/\(sc.names.lookup id=ab .cell->∀c,env.cells.lookup id=ab c->c∈W)
theorem Bn{F W:af aP}{g:aI}{kd:eK}{i:ai}{v:aB}{m:MV}{Q:Unit->aZ->Prop}(ok:lY env sc)(so:o9 sc)(l:Le g s.heap)(fr:gH g s.heap env sc vs as F)(S:Slot sc i kd)(r:MR g as m v)(hW:Wr env sc W (nm sc i))
  (k:∀h' tk,Step g s.heap W g h'->gH g h' env sc (vs.set i<|ab m) as F->Q () {s with heap:=h',toks:=tk}):aT (bH prog w) A (IM env (nm sc i) v) Q No s:=by
 have hk:=S.kind
 have h1:=S.lL
 have h2:=S.at'
 generalize nm sc i=id at*
 obtain⟨qh,hn⟩:=fr.ns
 have step:∀{c:aP}{h':aI},c∈gF env->c∈W->jD c s.heap h'->(h'.get? c).isSome=ae->Step g s.heap W g h':=λ{c h'} hce hc sb hs=>by
  have:=vS l (fr.ck c hce).1 sb hs
  exact this.aU λb hb=>.inl (by rw[cU.mp hb];exact hc)
 rcases hk with rfl|rfl
 ·have Hg:env.kindOf id=ab .local:=by rw[ok.kindOf,h1]
  refine wpAny_storeName_local Hg hn (λh' kq sb=>k h' _ (step (gZ ..) (hW.1 h1) sb (by obtain⟨o,_,_,e,_⟩:=kq;rw[e];rfl)) ?_) (by rw[ok.kind];rfl)
  refine⟨⟨_,kq⟩,λp hp=>?_,fr.ck,fr.apart,fr.has,λj y kj mj e1 e2 e3=>?_⟩
  ·obtain⟨v,hc⟩:=fr.mK p hp
   have:p.2≠env.locals:=λq=>(j3.mp fr.apart).1 (eE.mpr ⟨p,hp,q⟩)
   obtain⟨o,ho,hd⟩:=hc
   exact⟨v,o,by rw[sb.2 _ this];exact ho,hd⟩
  ·by_cases uz:i=j
   ·subst uz
    rw[h2] at e1;cases e1
    have d6:i<vs.length:=by
     have:=(l8.mp e3).1;simpa using this
    rw[AB d6] at e3;cases e3
    exact⟨v,⟨_,kq,by simp⟩,r⟩
   ·rw[xO uz] at e3
    obtain⟨u,a,ru⟩:=fr.lG j y kj mj e1 e2 e3
    refine⟨u,?_,ru⟩
    cases kj with
    |«local»=>
     have hy:y≠id:=λq=>by subst q;exact uz (so i j _ _ h2 e1<|.inl rfl)
     obtain⟨m',qx,hv⟩:=a
     rw[ZW qx hn] at hv
     exact⟨_,kq,by simp[hy,hv]⟩
    |cell=>
     obtain⟨c,hc,o,ho,hd⟩:=a
     have:c≠env.locals:=λq=>(j3.mp fr.apart).1 (eE.mpr ⟨(y,c),lK hc,q⟩)
     exact⟨c,hc,o,by rw[sb.2 _ this];exact ho,hd⟩
    |free=>exact a|globalExplicit=>exact a|globalImplicit=>exact a
 ·have Hg:env.kindOf id=ab .cell:=by rw[ok.kindOf,h1]
  obtain⟨c,hc⟩:=uY.mp (fr.has id h1)
  obtain⟨ajM,acd⟩:=fr.mK (id,c) (lK hc)
  refine wpAny_storeName_cell ok.kind Hg hc acd λh' si sb=>?_
  have Pl:c≠env.locals:=λq=>(j3.mp fr.apart).1 (eE.mpr ⟨(id,c),lK hc,q⟩)
  refine k h' s.toks (step (yZ hc) (hW.2 h1 c hc) sb (by obtain⟨o,e,_⟩:=si;rw[e];rfl)) ?_
  refine⟨⟨qh,let ⟨o,es,ep,ho,r⟩:=hn;⟨o,es,ep,by rw[sb.2 _ (Ne.symm Pl)];exact ho,r⟩⟩,λp hp=>?_,fr.ck,fr.apart,fr.has,λj y kj mj e1 e2 e3=>?_⟩
  ·by_cases q:p.2=c
   ·exact⟨_,q▸si⟩
   ·obtain⟨u,o,ho,hd⟩:=fr.mK p hp
    exact⟨u,o,by rw[sb.2 _ q];exact ho,hd⟩
  ·by_cases uz:i=j
   ·subst uz
    rw[h2] at e1;cases e1
    have d6:i<vs.length:=by
     have:=(l8.mp e3).1;simpa using this
    rw[AB d6] at e3;cases e3
    exact⟨v,⟨c,hc,si⟩,r⟩
   ·rw[xO uz] at e3
    obtain⟨u,a,ru⟩:=fr.lG j y kj mj e1 e2 e3
    refine⟨u,?_,ru⟩
    cases kj with
    |«local»=>
     obtain⟨m',⟨o,es,ep,ho,r⟩,hv⟩:=a
     exact⟨m',⟨o,es,ep,by rw[sb.2 _ (Ne.symm Pl)];exact ho,r⟩,hv⟩
    |cell=>
     obtain⟨c',Hv,o,ho,hd⟩:=a
     have:c'≠c:=λq=>by
      rw[q] at Hv
      have:=QL fr.apart Hv hc
      subst this
      exact uz (so i j _ _ h2 e1<|.inr rfl)
     exact⟨c',Hv,o,by rw[sb.2 _ this];exact ho,hd⟩
    |free=>exact a|globalExplicit=>exact a|globalImplicit=>exact a
end
section
open AutoSeq1 (wpAny_loadPart')
section
variable{prog:cC}{w:dv}{A:fJ}{E:aB->aZ->Prop}{s:aZ}
theorem Z8{it t:aP}{i:ai}{items:cT aB}{x:aB}{Q:aB->aZ->Prop}(g7:s.heap.IsTupleIter it t i)(ht:s.heap.IsTuple t items)(hx:items[i]?=ab x)
  (hQ:∀h',h'.IsTupleIter it t (i+1)->jD it s.heap h'->Q x {s with heap:=h'}):aT (bH prog w) A (Jd<|.ref it) Q E s:=by
 obtain⟨o,ho,hc,hd⟩:=id g7
 obtain⟨ol,Hc,_,nl,Hu⟩:=ht
 unfold Jd
 refine aY (Dq (name:=fU "__next__") g7.typeIs I9
  (xC I9 g7.typeIs aiG ?_ (aiJ _)))
 show aT _ _ (IV (.ref it) 0>>=_) _ _ s
 refine aY (xB ho hd (x:=.ref t) rfl ?_)
 show aT _ _ (if(sH t==uX)=ae then _ else _) _ _ s
 rw[br<|show ¬ ((sH t==uX)=ae) from ed]
 show aT _ _ (IV (.ref it) 1>>=_) _ _ s
 refine aY (xB ho hd (x:=.int i 0) rfl ?_)
 show aT _ _ (seqItems? (.ref t)>>=_) _ _ s
 refine aY (ahB Hc Hu ?_)
 simp only [ajA,hx]
 refine aY (ahA ho hd (by simp)<|b7 ⟨x,rfl,b7<|hQ _ ?_ (DH ..)⟩)
 exact⟨_,I7 _ ho (Obj.isFreed_of_fields<|aiu hd _),(Obj.cls_mapFields ..).trans hc,by
  rw[aiu hd];simp[uV]⟩
theorem Z9{it t:aP}{i:ai}{items:cT aB}{Q:aB->aZ->Prop}(hh:A.handled=aw)(g7:s.heap.IsTupleIter it t i)(ht:s.heap.IsTuple t items)(hx:items[i]?=aw)
  (hE:∀h' e,SJ it s.heap h'->(∃o,h'.get? e=ab o/\o.cls=.type "StopIteration")->E (.ref e) {s with heap:=h'}):aT (bH prog w) A (Jd<|.ref it) Q E s:=by
 obtain⟨o,ho,hc,hd⟩:=id g7
 obtain⟨ol,Hc,_,nl,Hu⟩:=ht
 unfold Jd
 refine aY (Dq (name:=fU "__next__") g7.typeIs I9
  (xC I9 g7.typeIs aiG ?_ (aiJ _)))
 show aT _ _ (IV (.ref it) 0>>=_) _ _ s
 refine aY (xB ho hd (x:=.ref t) rfl ?_)
 show aT _ _ (if(sH t==uX)=ae then _ else _) _ _ s
 rw[br<|show ¬ ((sH t==uX)=ae) from ed]
 show aT _ _ (IV (.ref it) 1>>=_) _ _ s
 refine aY (xB ho hd (x:=.int i 0) rfl ?_)
 show aT _ _ (seqItems? (.ref t)>>=_) _ _ s
 refine aY (ahB Hc Hu ?_)
 simp only [ajA,hx]
 refine aY (Dp<|aY (ahA ho hd (by simp) ?_))
 show aT _ _ (newExc (.type "StopIteration") []>>=_) _ _ _
 refine aY ?_
 simp only [newExc,Si]
 refine aY (Aj ?_ (by size_fits))
 refine aY (m:=ah3 _ _) (sF (a:=uX) (by first|rfl|(simp only [ah3];rfl)) ?_)
 refine Aj ?_ (by size_fits)
 simp only [raiseNew]
 refine aY (wpAny_handled ?_)
 first|rw[show A.in1.handled=aw from hh]|rw[hh]
 refine aY (b7<|wpAny_throw ?_)
 exact hE _ _ (((DH ..).extBut.push _).push _) ⟨_,lz _ rfl,rfl⟩
end
theorem aer{prog:cC}{w:dv}{A:fJ}(hh:A.handled=aw)(it l:aP)(mC:l≠it)(items:cT aB):
  Draws prog w A it [it,l] items.size (λi v=>items[i]?=ab v) (λi h=>h.IsTupleIter it l i/\h.IsTuple l items) where
 live:=λ_ _ st=>let ⟨o,ho,_⟩:=st.1;⟨o,ho⟩
 frame:=λ_ _ _ st hk=>⟨st.1.at λo e=>hk it (by simp) o e,st.2.at λo e=>hk l (by simp) o e⟩
 item:=λi s Q E hi st hQ=>by
  refine Z8 st.1 st.2 (x:=items[i]) (by simp[hi]) λh' qz nq=>?_
  exact hQ _ h' s.toks (by simp[hi]) ⟨qz,st.2.extBut nq.extBut mC⟩ nq
 done:=λs Q E st hE=>Z9 hh st.1 st.2 (by simp) hE
theorem aaC(l:aP)(items:cT aB)(n:ai)(H3:aD aP)(sl:cT (aD aB)):
  Meets (Builtin.«enumerate.__new__» ⟨[.type "enumerate",.ref l],[]⟩) (λ_ R s=>s.heap.get? l=ab {cls:=.type "tuple",dict:=H3,data:=.seq items n,slots:=sl}/\
   R (.ok<|.ret (.ref (s.heap.push {cls:=.type "tuple_iterator",data:=.fields #[.ref l,.int 0 0]}).objs.size))
    {s with heap:=(s.heap.push {cls:=.type "tuple_iterator",data:=.fields #[.ref l,.int 0 0]}).push {cls:=.type "enumerate",data:=.fields #[.none,.bool ag,.ref s.heap.objs.size,uV 0,.none,.none]}}):=
 .of_wp λprog w A R s h=>by
  obtain⟨hp,g,d,tk,os⟩:=s;obtain⟨hl,h⟩:=h
  have ajQ:=sub_enumerate
  have hL:Heap.IsTuple (Shared.heap ⟨hp,g,d,tk,os⟩) l items:=⟨_,hl,rfl,n,rfl⟩
  wp_walk using uS hl
  refine wpAny_stack_any λst=>b7 ?_
  split
  ·rename_i c _ _ _ _ _
   cases(c==Value.type "enumerate")
   ·wp_walk using uS hl,IG hL
    exact⟨_,rfl,h⟩
   ·wp_walk using uS hl,IG hL
    exact⟨_,rfl,h⟩
  ·wp_walk using uS hl,IG hL
   exact⟨_,rfl,h⟩
section
variable{prog:cC}{w:dv}{A:fJ}{E:aB->aZ->Prop}{s:aZ}
theorem afc{l:aP}{items:cT aB}{Q:aB->aZ->Prop}(hL:s.heap.IsTuple l items)
  (h:∀h',IsEnum h' (s.heap.objs.size+1) s.heap.objs.size 0 .none->h'.IsTupleIter s.heap.objs.size l 0->h'.objs.size=s.heap.objs.size+2->
   (∀b o,s.heap.get? b=ab o->h'.get? b=ab o)->Q (.ref<|s.heap.objs.size+1) {s with heap:=h'}):
  aT (bH prog w) A (call (.type "enumerate") [.ref l]) Q E s:=by
 obtain⟨H3,n,sl,hl⟩:=BR hL
 refine callType_new F.called_enumerate aa (F.typeCall_enumerate_1 _) (F.newCall_enumerate_1 _) (λobj=>F.args_object_init_2 obj _) F.entry_enumerate_new
  (aaC l items n H3 sl) ⟨hl,?_⟩
 have hz:(s.heap.push {cls:=.type "tuple_iterator",data:=.fields #[.ref l,.int 0 0]}).objs.size=s.heap.objs.size+1:=SH ..
 show _/\_
 rw[hz]
 have he:IsEnum ((s.heap.push {cls:=.type "tuple_iterator",data:=.fields #[.ref l,.int 0 0]}).push
   {cls:=.type "enumerate",data:=.fields #[.none,.bool ag,.ref s.heap.objs.size,uV 0,.none,.none]}) (s.heap.objs.size+1) s.heap.objs.size 0 .none:=by
  have:=lz (s.heap.push {cls:=.type "tuple_iterator",data:=.fields #[.ref l,.int 0 0]})
   (o:={cls:=.type "enumerate",data:=.fields #[.none,.bool ag,.ref s.heap.objs.size,uV 0,.none,.none]}) rfl
  rw[hz] at this;exact this
 exact⟨⟨_,he,rfl⟩,h _ he ⟨_,I8 _ (lz _ rfl),rfl,rfl⟩ (by rw[SH,hz]) λb o x=>I8 _ (I8 _ x)⟩
end
end
section
variable{prog:cC}{w:dv}{A:fJ}
structure qP(prog:cC)(w:dv)(A:fJ)(iJ:aX)(I:aP)(wr:af aP)(xs:af V)(St:ai->aI->aI->Prop):Prop where
 live:∀i g h,St i g h->∀b∈wr,(h.get? b).isSome=ae/\g.get? b=aw
 step:∀i g h g' h' F,St i g h->Le g h->Step g h F g' h'->(∀b∈wr,b∉F)->St i g' h'
 next:∀i g (s:aZ) (x:V),xs[i]?=ab x->St i g s.heap->Le g s.heap->∀K:aB->aZ->Prop,
  (∀v g' h' tk,Step g s.heap wr g' h'->St (i+1) g' h'->Rd g' v x->K v {s with heap:=h',toks:=tk})->
  aT (bH prog w) A (Dv<|.ref I) (λr aA=>∃v,r=ab v/\aT (bH prog w) A (letOwnedTupleGo iJ (.ref I) v) (λ_ aS=>K v aS) No aA) No s
 done:∀i g (s:aZ),i=xs.length->St i g s.heap->Le g s.heap->∀K:aD aB->aZ->Prop,
  (∀h' tk,(∀b o,b∉wr->s.heap.get? b=ab o->h'.get? b=ab o)->K aw {s with heap:=h',toks:=tk})->aT (bH prog w) A (Dv<|.ref I) K No s
 yA:∀i g (s:aZ) (Q:aB->aZ->Prop),St i g s.heap->Q (.ref I) s->aT (bH prog w) A (Dw<|.ref I) Q No s
noncomputable def ML:af String:=["enumerate","zip","dict_itemiterator","dict_reverseitemiterator","odict_iterator","itertools.zip_longest","itertools.pairwise"]
theorem HI{M:I5}{s:aZ}{iJ:aX}{I:aP}{v:aB}{o:pj}{n:String}{Q:Unit->aZ->Prop}(ho:s.heap.get? I=ab o)(hc:o.cls=.type n)(hn:ML.contains n=ag)(hQ:Q () s):
  aT M A (letOwnedTupleGo iJ (.ref I) v) Q No s:=by
 unfold letOwnedTupleGo
 have key:∀a:aP,aT M A (do
   let o <-load I
   match o.cls,o.data with
   | .type n,.fields vs=>
    if["enumerate","zip","dict_itemiterator","dict_reverseitemiterator","odict_iterator","itertools.zip_longest","itertools.pairwise"].contains n&&vs[0]?==ab (uV a) then
     rule "for.unpacks-the-owned-tuple"
     updateField I 0 .none
   |_,_=>pure ()) Q No s:=λa=>by
  refine aY (wpAny_load ho ?_)
  rw[hc]
  split
  ·rename_i n' vs e1 e2
   have:n'=n:=by injection e1 with e1;exact e1.symm
   subst this
   rw[br (by
    intro h
    have h1:ML.contains n'=ae:=by simp only [q7] at h;exact h.1
    rw[hn] at h1;cases h1)]
   exact b7 hQ
  ·exact b7 hQ
 split
 ·cases v<;>first|exact key _|exact b7 hQ
 ·cases v<;>first|exact key _|exact b7 hQ
 ·exact b7 hQ
theorem abM{iJ:aX}{I ax:aP}{items:cT aB}{xs:af V}(hh:A.handled=aw):
  qP prog w A iJ I [I] xs (λi g h=>h.IsListIter I ax i/\g.IsList ax items/\a7 (Rd g) items.toList xs/\g.get? I=aw) where
 live:=λi g h st b hb=>by
  rw[cU.mp hb]
  obtain⟨⟨o,e,_⟩,_,_,hn⟩:=st
  exact⟨by rw[e];rfl,hn⟩
 step:=λi g h g' h' F st l sp hF=>by
  obtain⟨⟨o,e,r⟩,hl,hr,hn⟩:=st
  have hI:=hF I (by simp)
  exact⟨⟨o,sp.frame _ _ e hI,r⟩,IsList.le sp.gg hl,Rd.o6 sp.gg hr,sp.ck hn (by rw[e];rfl) hI⟩
 next:=λi g s x hx st l K k=>by
  obtain⟨g7,hl,hr,hn⟩:=st
  obtain⟨v,hv,rv⟩:=hr.get hx
  refine ahD g7 (IsList.le l hl) (x:=v) (by simpa using hv) λh' qz sb=>⟨v,rfl,?_⟩
  obtain⟨o,e,hc,_⟩:=id qz
  exact HI e hc aa (k v g h' s.toks (vS l hn sb (by rw[e];rfl)) ⟨qz,hl,hr,hn⟩ rv)
 done:=λi g s hx st l K k=>by
  obtain⟨g7,hl,hr,hn⟩:=st
  have hz:items[i]?=aw:=by
   have h1:=hr.length
   simp at h1 ⊢;omega
  exact ahE hh g7 (IsList.le l hl) hz λh' he=>k h' s.toks λb o hb e=>he b o (by simpa using hb) e
 yA:=λi g s Q st hQ=>wpAny_pyIter_listiter st.1 hQ
theorem abK{iJ:aX}{I ax:aP}{items:cT aB}{xs:af V}(hh:A.handled=aw):
  qP prog w A iJ I [I] xs (λi g h=>h.IsTupleIter I ax i/\g.IsTuple ax items/\a7 (Rd g) items.toList xs/\g.get? I=aw) where
 live:=λi g h st b hb=>by
  rw[cU.mp hb]
  obtain⟨⟨o,e,_⟩,_,_,hn⟩:=st
  exact⟨by rw[e];rfl,hn⟩
 step:=λi g h g' h' F st l sp hF=>by
  obtain⟨⟨o,e,r⟩,hl,hr,hn⟩:=st
  have hI:=hF I (by simp)
  exact⟨⟨o,sp.frame _ _ e hI,r⟩,IsTuple.le sp.gg hl,Rd.o6 sp.gg hr,sp.ck hn (by rw[e];rfl) hI⟩
 next:=λi g s x hx st l K k=>by
  obtain⟨g7,hl,hr,hn⟩:=st
  obtain⟨v,hv,rv⟩:=hr.get hx
  refine wpAny_pyNext_tuple_item g7 (IsTuple.le l hl) (x:=v) (by simpa using hv) λh' qz sb=>⟨v,rfl,?_⟩
  obtain⟨o,e,hc,_⟩:=id qz
  exact HI e hc aa (k v g h' s.toks (vS l hn sb (by rw[e];rfl)) ⟨qz,hl,hr,hn⟩ rv)
 done:=λi g s hx st l K k=>by
  obtain⟨g7,hl,hr,hn⟩:=st
  have hz:items[i]?=aw:=by
   have h1:=hr.length
   simp at h1 ⊢;omega
  exact wpAny_pyNext_tuple_end hh g7 (IsTuple.le l hl) hz λh' he=>k h' s.toks λb o hb e=>he b o (by simpa using hb) e
 yA:=λi g s Q st hQ=>wpAny_pyIter_tupleiter st.1 hQ
theorem abL{iJ:aX}{I:aP}{n:ai}(hh:A.handled=aw):
  qP prog w A iJ I [I] ((jE n).map λ(i:ai)=>iq (i:aH)) (λi g h=>aiy h I (i:aH) ((n:aH)-(i:ai)) 1/\g.get? I=aw) where
 live:=λi g h st b hb=>by
  rw[cU.mp hb]
  exact⟨by rw[st.1];rfl,st.2⟩
 step:=λi g h g' h' F st l sp hF=>by
  have hI:=hF I (by simp)
  exact⟨sp.frame _ _ st.1 hI,sp.ck st.2 (by rw[st.1];rfl) hI⟩
 next:=λi g s x hx st l K k=>by
  have d6:i<n:=by
   have:=(l8.mp hx).1;simpa using this
  have um:x=.int i:=by
   rw[u7,List.getElem?_range d6] at hx;simpa using hx.symm
  subst um
  refine wpAny_pyNext_range_item st.1 (by omega) λh' qz sb=>⟨_,rfl,?_⟩
  have e:aiy h' I ((i:aH)+1) ((n:aH)-(i:ai)-1) 1:=qz
  refine HI e rfl aa (k _ g h' _ (vS l st.2 sb (by rw[e];rfl)) ⟨?_,st.2⟩<|Rd.int _ _)
  have e1:((i+1:ai):aH)=(i:aH)+1:=by omega
  have e2:(n:aH)-((i+1:ai):aH)=(n:aH)-(i:ai)-1:=by omega
  rw[e2,e1];exact e
 done:=λi g s hx st l K k=>by
  have hz:n=i:=by simpa using hx.symm
  exact wpAny_pyNext_range_end hh st.1 (by omega) λh' he=>k h' s.toks λb o hb e=>he b o (by simpa using hb) e
 yA:=λi g s Q st hQ=>wpAny_pyIter_rangeiter st.1 hQ
theorem OB{elts:af aX}{kd:ai}{pos:eJ}{e it:aP}{fp:af aP}{n:ai}{P:ai->aB->Prop}{S:ai->aI->Prop}{xs:af V}{G:aI->Prop}(hD:Draws prog w A.in1 it fp n P S)(hei:e≠it)(Cw:e∉fp)(hlen:xs.length=n)
  (hG:∀g g',Le g g'->G g->G g')(hP:∀i v g x,G g->P i v->xs[i]?=ab x->Rd g v x)(hfp:∀g b,G g->b∈fp->b≠it->(g.get? b).isSome=ae):
  qP prog w A (.Tuple elts kd pos) e [e,it] (xs.zipIdx.map λp=>.tuple [.int p.2,p.1]) (λi g h=>(∃old,IsEnum h e it i old)/\S i h/\G g/\g.get? e=aw/\g.get? it=aw) where
 live:=λi g h st b hb=>by
  obtain⟨⟨old,he⟩,hs,_,h1,h2⟩:=st
  rcases dX.mp hb with rfl|hb
  ·exact⟨by rw[he];rfl,h1⟩
  ·rw[cU.mp hb]
   obtain⟨o,ho⟩:=hD.live _ _ hs
   exact⟨by rw[ho];rfl,h2⟩
 step:=λi g h g' h' F st l sp hF=>by
  obtain⟨⟨old,he⟩,hs,hg,h1,h2⟩:=st
  have f1:=hF e (by simp)
  have f2:=hF it (by simp)
  obtain⟨o,ho⟩:=hD.live _ _ hs
  refine⟨⟨old,sp.frame _ _ he f1⟩,hD.frame _ _ _ hs λb hb o' eo=>?_,hG _ _ sp.gg hg,sp.ck h1 (by rw[he];rfl) f1,sp.ck h2 (by rw[ho];rfl) f2⟩
  by_cases q:b=it
  ·subst q;exact sp.frame _ _ eo f2
  ·obtain⟨o'',go⟩:=uY.mp (hfp g b hg hb q)
   have:=l _ _ go
   rw[eo] at this;cases this
   exact sp.gh _ _ (sp.gg _ _ go)
 next:=λi g s x hx st l K k=>by
  obtain⟨⟨old,he⟩,hs,hg,h1,h2⟩:=st
  obtain⟨⟨y,j⟩,hy,rfl⟩:∃p,xs.zipIdx[i]?=ab p/\aip [.int p.2,p.1]=x:=by
   rw[u7] at hx
   exact sJ.mp hx
  rw[List.getElem?_zipIdx] at hy
  obtain⟨y',O0,OZ⟩:=sJ.mp hy
  simp only [Prod.mk.injEq,kC] at OZ
  obtain⟨rfl,rfl⟩:=OZ
  have d6:i<n:=by rw[<-hlen];exact(l8.mp O0).1
  refine wpAny_pyNext_enum_itemD hD he hs d6 hei Cw λu h' tk hp acp nq hT hsz hk=>⟨_,rfl,?_⟩
  have acC:e<s.heap.objs.size:=sI he
  have acx:it<s.heap.objs.size:=by obtain⟨_,z⟩:=hD.live _ _ hs;exact sI z
  refine wpAny_letOwnedTupleGo_enum acp λfv Ph sb=>?_
  have Pt:s.heap.objs.size≠e:=DM acC
  have hTi:s.heap.objs.size≠it:=DM acx
  have hT':fv.get? s.heap.objs.size=ab {cls:=.type "tuple",data:=.seq #[.int i tk,u]}:=by rw[sb.2 _ Pt];exact hT
  have zu:S (i+1) fv:=hD.frame _ _ _ nq λb hb o eo=>by rw[sb.2 b λq=>Cw<|q▸hb];exact eo
  have keep:∀b o,b∉[e,it]->s.heap.get? b=ab o->fv.get? b=ab o:=λb o hb eo=>by
   simp only [dX,gA,or_false,not_or] at hb
   rw[sb.2 b hb.1];exact hk b o hb.1 hb.2 eo
  have lh:Le g fv:=λb o eo=>keep b o (λq=>by
   rcases dX.mp q with rfl|q
   ·rw[h1] at eo;cases eo
   ·rw[cU.mp q,h2] at eo;cases eo) (l b o eo)
  have sp:Step g s.heap [e,it] (iG g fv [s.heap.objs.size]) fv:=
   ⟨my lh,A5,λb o eo hb=>keep b o hb eo,λb o eo hn=>.inl (by rw[cU.mp<|vI eo hn];exact fN _),λb eb=>by
    cases q:s.heap.get? b with
    |none=>rfl|some o=>
     by_cases hb:b∈[e,it]
     ·rcases dX.mp hb with rfl|hb
      ·rw[Ph] at eb;cases eb
      ·rw[cU.mp hb] at eb
       obtain⟨o',ho'⟩:=hD.live _ _ zu
       rw[ho'] at eb;cases eb
     ·rw[keep b o hb q] at eb;cases eb⟩
  have Ct:∀b,b∈[e,it]->(iG g fv [s.heap.objs.size]).get? b=aw:=λb hb=>by
   cases q:(iG g fv [s.heap.objs.size]).get? b with
   |none=>rfl|some o=>
    have hgb:g.get? b=aw:=by
     rcases dX.mp hb with rfl|hb
     ·exact h1
     ·rw[cU.mp hb];exact h2
    have:=cU.mp (vI q hgb)
    rcases dX.mp hb with rfl|hb
    ·exact dk this (Ne.symm Pt)
    ·exact dk this (λz=>hTi<|by rw[<-z,cU.mp hb])
  refine k _ (iG g fv [s.heap.objs.size]) fv _ sp ⟨⟨u,by simpa using Ph⟩,zu,hG _ _ (my lh) hg,Ct e (by simp),Ct it<|by simp⟩ ?_
  refine Rd.tuple (items:=#[.int i tk,u]) ⟨_,by rw[yl<|by simp];exact hT',rfl,0,rfl⟩ ?_
  exact .cons (Rd.int _ _) (.cons (Rd.aU (my lh)<|hP i u g y' hg hp O0) .nil)
 done:=λi g s hx st l K k=>by
  obtain⟨⟨old,he⟩,hs,hg,h1,h2⟩:=st
  have hi:i=n:=by rw[hx];simpa using hlen
  subst hi
  exact wpAny_pyNext_enum_endD hD he hs λh' hx=>k h' s.toks λb o hb y=>hx b o (λq=>hb<|by simp[q]) y
 yA:=λi g s Q st hQ=>by
  obtain⟨⟨old,he⟩,_⟩:=st
  exact RY he hQ
end
section
variable{prog:cC}{w:dv}{A:fJ}{env:ff}{sc:Sc}{as:af Ad}{Fo W:af aP}{g:aI}
theorem Wr.all(env:ff)(sc:Sc)(id:aq):Wr env sc (gF env) id:=⟨λ_=>gZ ..,λ_ _ hc=>yZ hc⟩
theorem Step.HX{g h h₁ cH:aI}{F:af aP}(a:Step g h F g h₁)(b:Step g h₁ F g cH):Step g h F g cH:=a.trans b λ_ hx=>.inl hx
theorem Rf{s:aZ}{vs:Vs}{p:eJ}{i:ai}{v:aB}{m:MV}{Q:Unit->aZ->Prop}(ok:lY env sc)(so:o9 sc)(l:Le g s.heap)(fr:gH g s.heap env sc vs as Fo)(e:iK sc i=ae)(r:MR g as m v)(hW:Wr env sc W (nm sc i))
  (k:∀h' tk,Step g s.heap W g h'->gH g h' env sc (vs.set i<|ab m) as Fo->Q () {s with heap:=h',toks:=tk}):aT (bH prog w) A (jY (.Name (nm sc i) p) env v) Q No s:=
 (yv e).elim λkd S=>II (Bn ok so l fr S r hW k)
theorem agT(ok:lY env sc)(so:o9 sc):∀(is:af ai)(es:af aX){bT:af aB}{ds:af V},(∀i∈is,iK sc i=ae/\Wr env sc W (nm sc i))->a7 (Rd g) bT ds->ds.length=is.length->
  ∀(s:aZ)(vs:Vs)(Q:Unit->aZ->Prop),Le g s.heap->gH g s.heap env sc vs as Fo->
  (∀h' tk,Step g s.heap W g h'->gH g h' env sc ((is.zip ds).foldl (λvs p=>vs.set p.1<|ab (.val p.2)) vs) as Fo->Q () {s with heap:=h',toks:=tk})->
  aT (bH prog w) A (aib ((I1 (names (is.map<|nm sc) es) env).map (·.2)) bT) Q No s:=by
 intro is
 induction is with
 |nil=>
  intro es bT ds _ r hl s vs Q l fr k
  cases r with
  |nil=>exact b7 (k s.heap s.toks (.refl _ l) fr)|cons _ _=>cases hl
 |cons i is ih=>
  intro es bT ds h r hl s vs Q l fr k
  cases r with
  |nil=>cases hl|cons r1 r2=>
   have h1:=h i (gZ ..)
   exact SR (t:=jY (.Name (nm sc i) (hd es).pos) env) (Rf ok so l fr h1.1 (m:=.val _) r1 h1.2 λh₁ oJ lD HM=>ih es.tail (λj hj=>h j<|iE _ hj) r2 (DL hl) _ _ Q lD.gh HM λcH iI md o2=>k cH iI (lD.HX md) o2)
theorem Nu:∀(is:af aq)(es:af aX),(I1 (names is es) env).length=is.length/\(I1 (names is es) env).findIdx? (·.1)=aw
 |[],_=>⟨rfl,rfl⟩
 |x::is,es=>by
  obtain⟨h1,h2⟩:=Nu is es.tail
  refine⟨ay (·+1) h1,?_⟩
  show((ag,jY (.Name x (hd es).pos) env)::I1 (names is es.tail) env).findIdx? (·.1)=aw
  rw[List.findIdx?_cons,h2];rfl
theorem Ii{s:aZ}{vs eB:Vs}{tg:Tg}{e:aX}{v:aB}{d:V}{Q:Unit->aZ->Prop}(hh:A.handled=aw)(ok:lY env sc)(so:o9 sc)(l:Le g s.heap)(fr:gH g s.heap env sc vs as Fo)(ht:pM sc tg=ae)(r:Rd g v d)(eb:hO tg d vs=ab eB)(hW:∀id∈yp sc tg,Wr env sc W id)
  (k:∀h' tk,Step g s.heap W g h'->gH g h' env sc eB as Fo->Q () {s with heap:=h',toks:=tk}):aT (bH prog w) A (jY (gG sc tg e) env v) Q No s:=by
 cases tg with
 |name i=>
  cases eb
  exact Rf ok so l fr ht (m:=.val d) r (hW _ (gZ ..)) k
 |aC is=>
  simp only [hO] at eb
  split at eb
  ·rename_i ds hi
   obtain⟨hl,rfl⟩:=eC eb
   obtain⟨n1,n2⟩:=Nu (env:=env) (is.map<|nm sc) (cL e)
   have uu:∀i∈is,iK sc i=ae:=by
    have h:=(q7 _ _▸ht:_/\_)
    exact sP.mp (q7 _ _▸h.1:_/\_).1
   show aT _ _ (jY (.Tuple (names (is.map<|nm sc)<|cL e) (kd e) e.pos) env v) Q No s
   rw[aie]
   refine aY (jW ?_)
   unfold unpack
   rw[n2,n1]
   refine aY (kB<|UI hh l r hi (hl.trans (iF ..).symm) λh₁ bT le rv=>?_)
   exact agT ok so is (cL e) (λi hi=>⟨uu i hi,hW _ (eE.mpr ⟨i,hi,rfl⟩)⟩) rv hl _ _ Q (l.trans le) (fr.step (.fm Fo l le) λ_ h=>h) λcH iI md o2=>k cH iI ((Step.fm W l le).HX md) o2
  ·exact cO eb
end
section
variable{c:Cx}{x y z:X}{e e' jv:aX}{pos:eJ}{vs:Vs}{as:af Ad}{μ μ₁ μ₂:Mo}
theorem CH{h:aI}{a:aP}(ha:h.objs.size<=a):h.get? a=aw:=by
 cases q:h.get? a with
 |none=>rfl|some o=>exact dk (sI q) (nK.mpr ha)
abbrev Dg(c:Cx)(iJ:aX)(vs:Vs)(as:af Ad)(μ:Mo)(K:af V×Rs->Os->Prop)(Q:aB->aZ->Prop):Prop:=
 ∀(μ':Mo)(xs:af V)(os:Os)(I:aP)(wr:af aP)(St:ai->aI->aI->Prop),cF c vs as μ μ'->qP c.prog c.w c.A iJ I wr xs St->St 0 μ'.g μ'.h->(∀b∈wr,μ.h.get? b=aw)->K (xs,μ'.rs) os->Q (.ref I) (c.st μ')
theorem abO{iJ:aX}{m:MV}{v:aB}{p:af V×Rs}{os:Os}{K:af V×Rs->Os->Prop}{Q:aB->aZ->Prop}(F:b6 c)(n:cG c vs as μ)(T:cF c vs as μ μ₁)(t:TM c as μ μ₁ m v)(e:t8 .plain m μ₁.rs=ab p)(h:K p os)(k:Dg c iJ vs as μ K Q):W c (Dw v) Q μ₁:=
 bind.on e λq e1 e=>map.on e λxs hi e=>by
  subst e
  obtain⟨g,bo,r,le⟩:=t.keep n T e1
  have hn:g.get? μ₁.h.objs.size=aw:=bo.aQ.le.none (fN _)
  have dC:=λo=>bo.trans (bo.aQ.fm μ₁.tk<|gI μ₁.h o)
  have fr:∀b∈[μ₁.h.objs.size],μ.h.get? b=aw:=λb hb=>by rw[cU.mp hb];exact T.st.f7 _ (fN _)
  obtain⟨d,rs⟩:=q
  cases d with
  |list ys=>
   cases hi
   obtain⟨a,items,rfl,h1,h2⟩:=r.y6
   exact ahF (IsList.le bo.aQ.le h1) (k _ xs os _ _ _ (dC _) (abM (ax:=a) (items:=items) F.gJ.hd) ⟨⟨_,lz _ rfl,rfl,rfl⟩,h1,h2,hn⟩ fr h)
  |tuple ys=>
   cases hi
   obtain⟨a,items,rfl,h1,h2⟩:=r.kG
   exact IG (IsTuple.le bo.aQ.le h1) (k _ xs os _ _ _ (dC _) (abK (ax:=a) (items:=items) F.gJ.hd) ⟨⟨_,lz _ rfl,rfl,rfl⟩,h1,h2,hn⟩ fr h)
  |_=>cases hi
theorem afm:Dz wN=ab (.type "range"):=by decide+kernel
theorem afn:Dz wO=ab (.type "enumerate"):=by decide+kernel
theorem abN{iJ:aX}{p:eJ}{os:Os}{K:af V×Rs->Os->Prop}{Q:aB->aZ->Prop}(F:b6 c)(hx:kT c.sc wN=ae)(He:Sy c e x)(n:cG c vs as μ)(h:wX c.C c.cb x μ.rs vs os λm rs os=>b4 (t8 .range m rs) os K)(k:Dg c iJ vs as μ K Q):
  W c (eR (.Call (.Name wN p) [e] [] pos) c.env) (λxv aA=>aT (bH c.prog c.w) c.A (Dw xv) Q No aA) μ:=by
 rw[Ag]
 refine aY (zB F n hx (by decide+kernel) afm<|DJ (Ak (He.1 n h λμ₁ m v os T t h=>IH<|b4.on h λq e h=>?_)<|js He.2 _) (js He.2 _))
 exact bind.on e λd e1 e=>bind.on e λi e2 e=>(eC e).elim λhz e3=>by
  cases rm e1
  cases qu e2
  cases e3
  obtain⟨t1,rfl⟩:=Rd.wY t
  have en:((i.toNat:ai):aH)=i:=vd hz.1
  refine call_range_1 (wpAny_pyIter_range (IsRange.new _ _ _ _ _ _ _) (small_one aa aa (qZ aa hz.1)<|qZ (ajE hz.2 1) (aa:(100000+1:aH)<=2 ^ 62)) ?_)
  have hr:ako 0 i 1=((i.toNat:ai):aH):=by rw[rangeSize_one];split<;>omega
  rw[hr]
  have bo:=T.aQ.fm (μ₁.tk+2) (gI μ₁.h {cls:=.type "range",data:=.fields #[.int 0 μ₁.tk,.int i t1,.int 1<|μ₁.tk+1]})
  have dC:=bo.aQ.fm (μ₁.tk+2) (gI (μ₁.h.push {cls:=.type "range",data:=.fields #[.int 0 μ₁.tk,.int i t1,.int 1<|μ₁.tk+1]}) {cls:=.type "range_iterator",data:=.fields #[uV 0,uV ((i.toNat:ai):aH),uV 1]})
  refine k _ _ os _ [_] _ (T.trans<|bo.trans dC) (abL (n:=i.toNat) F.gJ.hd) ⟨?_,bo.aQ.le.none<|fN _⟩ (λb hb=>?_) h
  ·exact(lz _ rfl).trans (by simp)
  ·exact cU.mp hb▸(T.trans bo).st.f7 _ (fN _)
theorem abP{tg:aX}{ts:af aX}{kd:ai}{pt p:eJ}{os:Os}{K:af V×Rs->Os->Prop}{Q:aB->aZ->Prop}(F:b6 c)(hx:kT c.sc wO=ae)(He:Sy c e x)(n:cG c vs as μ)(h:wX c.C c.cb x μ.rs vs os λm rs os=>b4 (t8 .nz m rs) os K)(k:Dg c (.Tuple ts kd pt) vs as μ K Q):
  W c (eR (.Call (.Name wO p) [e] [] pos) c.env) (λxv aA=>aT (bH c.prog c.w) c.A (Dw xv) Q No aA) μ:=by
 rw[Ag]
 refine aY (zB F n hx (by decide+kernel) afn<|DJ (Ak (He.1 n h λμ₁ m v os T t h=>IH<|b4.on h λq e hK=>bind.on e λq e1 e=>map.on e λxs hi e=>?_)<|js He.2 _) (js He.2 _))
 subst e
 obtain⟨g,bo,r,le⟩:=t.keep n T e1
 have n1:g.get? μ₁.h.objs.size=aw:=bo.aQ.le.none (fN _)
 have n2:g.get? (μ₁.h.objs.size+1)=aw:=bo.aQ.le.none (CH<|aR _)
 have hw:∀b∈[μ₁.h.objs.size+1,μ₁.h.objs.size],μ.h.get? b=aw:=λb hb=>T.st.f7 _ (CH (by
  rcases dX.mp hb with rfl|hb
  ·exact aR _
  ·rw[cU.mp hb];exact aF _))
 have fp:∀{a:aP},a<μ₁.h.objs.size->μ₁.h.objs.size+1∉[μ₁.h.objs.size,a]:=λha q=>by
  rcases dX.mp q with q|q
  ·exact SW _ q
  ·exact dk (cU.mp q) (DM<|Nat.lt_succ_of_lt ha)
 have un:∀{i:ai}{v u:aB}{items:cT aB},items[i]?=ab v->items.toList[i]?=ab u->u=v:=λh h'=>by rw[JA,h] at h';exact(cq h').symm
 obtain⟨d,rs⟩:=q
 cases d with
 |list ys=>
  cases hi
  obtain⟨a,items,rfl,h1,h2⟩:=r.y6
  have hl:=IsList.le bo.aQ.le h1
  have ha:a<μ₁.h.objs.size:=hl.elim λo q=>sI q.1
  refine call_enumerate_list hl λh' he g7 hsz keep=>RY he ?_
  refine k ⟨g,h',rs,μ₁.tk⟩ _ os _ _ _ (bo.trans<|bo.aQ.fm _ keep) (OB (G:=λg=>g.IsList a items/\a7 (Rd g) items.toList xs) (Draws.list (A:=c.A.in1) F.gJ.hd μ₁.h.objs.size a (Aw ha) items) (SW _) (fp ha) h2.bS.symm
   (λg g' l x=>⟨IsList.le l x.1,Rd.o6 l x.2⟩) (λi v g y x hv hy=>(x.2.get hy).elim λu q=>un hv q.1▸q.2) (λg b x hb mC=>?_)) ⟨⟨_,he⟩,⟨g7,IsList.le keep hl⟩,⟨h1,h2⟩,n2,n1⟩ hw hK
  exact(dX.mp hb).elim (λq=>dk q mC) λq=>cU.mp q▸x.1.elim λo q=>by rw[q.1];rfl
 |tuple ys=>
  cases hi
  obtain⟨a,items,rfl,h1,h2⟩:=r.kG
  have hl:=IsTuple.le bo.aQ.le h1
  have ha:a<μ₁.h.objs.size:=hl.elim λo q=>sI q.1
  refine afc hl λh' he g7 hsz keep=>RY he ?_
  refine k ⟨g,h',rs,μ₁.tk⟩ _ os _ _ _ (bo.trans<|bo.aQ.fm _ keep) (OB (G:=λg=>g.IsTuple a items/\a7 (Rd g) items.toList xs) (aer (A:=c.A.in1) F.gJ.hd μ₁.h.objs.size a (Aw ha) items) (SW _) (fp ha) h2.bS.symm
   (λg g' l x=>⟨IsTuple.le l x.1,Rd.o6 l x.2⟩) (λi v g y x hv hy=>(x.2.get hy).elim λu q=>un hv q.1▸q.2) (λg b x hb mC=>?_)) ⟨⟨_,he⟩,⟨g7,IsTuple.le keep hl⟩,⟨h1,h2⟩,n2,n1⟩ hw hK
  exact(dX.mp hb).elim (λq=>dk q mC) λq=>cU.mp q▸x.1.elim λo q=>by rw[q.1];rfl
 |_=>cases hi
theorem OC{eU:IK}{it:aX}{tg:Tg}{te:aX}{arg:aX->aX}{os:Os}{K:af V×Rs->Os->Prop}{Q:aB->aZ->Prop}(F:b6 c)(hk:zk c.sc eU tg=ae)(He:Sy c (arg<|zj eU it) x)(sc:Sc)(n:cG c vs as μ)
  (h:wX c.C c.cb x μ.rs vs os λm rs os=>b4 (t8 eU m rs) os K)(k:Dg c (gG sc tg te) vs as μ K Q):W c (eR (k9 eU it arg) c.env) (λxv aA=>aT (bH c.prog c.w) c.A (Dw xv) Q No aA) μ:=by
 cases eU with
 |plain=>exact He.1 n h λμ₁ m v os T t h=>b4.on h λp e h=>abO F n T t e h k|range=>exact abN F hk He n h k|nz=>
  have hk:=(q7 _ _▸hk:_/\_)
  cases tg with
  |name _=>cases hk.2|aC is=>exact abP (tg:=te) F hk.1 He n h k
end
section
variable{prog:cC}{w:dv}{A:fJ}
theorem No.any{E:aB->aZ->Prop}(e:aB)(s:aZ)(z:No e s):E e s:=z.elim
theorem aeU{elt target iter:aX}{ifs:af aX}{scope:gR}{pos:eJ}{it acc:aB}{env:ff}{R:Result->aZ->Prop}(I:ai->aZ->Prop)
  (cW:∀n s,I n s->aT (bH prog w) A (Dv it) (λr aA=>(r=aw/\R (.ok .next) aA)\/∃v,r=ab v/\
   aT (bH prog w) A (letOwnedTupleGo target it v) (λ_ vR=>aT (bH prog w) A (jY target env v) (λ_ aS=>
     aT (bH prog w) A (forIn ifs ae λc r=>if r=ae then do let ok <-isTrue c env (eR c env);pure (l9 ok) else pure (l9 r)) (λok i5=>
      if ok=ae then aT (bH prog w) A (eR elt env) (λx vQ=>aT (bH prog w) A (call (.builtin "list.append") [acc,x]) (λ_ Bk=>∃m,m<n/\I m Bk) No vQ) No i5
      else∃m,m<n/\I m i5) No aS) No vR) No aA) No s)
  {n:ai}{s:aZ}(h:I n s):Sr (bH prog w) A (.compLoop (.ListComp elt [⟨target,iter,ifs,0⟩] scope pos) 0 it acc env) R s:=by
 refine codeAny_loop rfl I (λn s hI=>?_) n h
 show aT _ A ((compTurn (.ListComp elt [⟨target,iter,ifs,0⟩] scope pos) 0 it acc env).onRaise (λx=>do noteFrame x env;theTreesLotGoes x)) _ _ s
 refine wpAny_noted ?_
 rw[compTurn_list]
 exact aY (jW<|aY (fq (cW n s hI) (λr aA h₁=>h₁.elim (λh=>h.1▸b7 h.2) λh=>h.elim λv h=>h.1▸
  aY (fq h.2 (λ_ vR Cs=>aY<|fq Cs (λ_ aS cH=>aY<|fq cH (λok i5 ez=>by
   cases ok with
   |false=>exact b7 ⟨rfl,(br ed).mp ez⟩|true=>exact aY<|aY (fq ((a9 rfl).mp ez) (λx vQ GW=>aY<|fq GW (λ_ Bk acb=>b7<|b7 ⟨rfl,acb⟩) No.any) No.any)) No.any) No.any) No.any)) No.any))
theorem tV{β:Type}{l:af (aq×β)}{n:aq}{c:β}(hn:(l.map (·.1)).Nodup)(h:(n,c)∈l):l.lookup n=ab c:=by
 induction l with
 |nil=>exact(gA h).elim|cons p l ih=>
  have hn:p.1∉l.map (·.1)/\(l.map (·.1)).Nodup:=j3.mp hn
  rw[DQ]
  refine(dX.mp h).elim (λe=>?_) λh=>?_
  ·cases e;rw[beq_self_eq_true]
  ·rw[beq_false_of_ne λq:n=p.1=>hn.1<|q▸eE.mpr ⟨_,h,rfl⟩];exact ih hn.2 h
section
noncomputable def xn(env:ff)(l:af (aq×eK)):af (aq×aP):=(l.filter λx=>x.2==.free).map λx=>(x.1,(env.cells.lookup x.1).getD 0)
end
variable{env:ff}
theorem QM{n:aq}(h:(env.cells.lookup n).isSome=ae):env.cells.lookup n=ab ((env.cells.lookup n).getD 0):=(uY.mp h).elim λc e=>e▸rfl
theorem afb(l:af (aq×eK)):∀cs:af (aq×aP),(∀n,(n,I4)∈l->(env.cells.lookup n).isSome=ae)->(forIn l cs (λ(x:aq×eK)(r:af (aq×aP))=>match x with
   |(name,kind)=>if(kind==.free)=ae then do let c <-Dy env name;pure (l9<|(name,c)::r) else pure (l9 r)):eD (af<|aq×aP))=pure ((xn env l).reverse++cs):=by
 induction l with
 |nil=>exactλcs _=>rfl|cons x l ih=>
  intro cs h
  have t:=λcs=>ih cs λn q=>h n (.tail _ q)
  rw[aju]
  by_cases hk:(x.2==.free)=ae
  ·have e:Dy env x.1=pure ((env.cells.lookup x.1).getD 0):=by
    unfold Dy
    rw[QM<|h x.1 (uQ hk▸.head _)];rfl
   rw[show xn env (x::l)=(x.1,(env.cells.lookup x.1).getD 0)::xn env l from ay (ajn _) (List.filter_cons_of_pos (p:=λx:aq×eK=>x.2==.free) hk),ajd,oz]
   show(if(x.2==.free)=ae then(Dy env x.1>>=λc=>pure<|l9 ((x.1,c)::cs)) else pure (l9 cs))>>=_=_
   rw[a9 hk,e];exact t _
  ·rw[show xn env (x::l)=xn env l from ay (ajn _)<|List.filter_cons_of_neg (p:=λx:aq×eK=>x.2==.free) hk]
   show(if(x.2==.free)=ae then(Dy env x.1>>=λc=>pure<|l9 ((x.1,c)::cs)) else pure (l9 cs))>>=_=_
   rw[br hk];exact t _
structure Dl(env:ff)(scope:gR)(cl:af (aq×aP)):Prop where
 eq:closureFor scope env=pure cl
 cell:∀p∈cl,env.cells.lookup p.1=ab p.2
 all:∀n,(n,I4)∈scope.names->∃c,(n,c)∈cl
 nd:(cl.map (·.1)).Nodup
theorem ae0{scope:gR}(h:∀n,(n,I4)∈scope.names->(env.cells.lookup n).isSome=ae)(hn:(scope.names.map (·.1)).Nodup):Dl env scope ((xn env scope.names).reverse) where
 eq:=(show(forIn scope.names [] _>>=λcs=>pure cs)=_ from(bind_pure _).trans ((afb scope.names [] h).trans (ay pure<|fy _)))
 cell:=λp hp=>(eE.mp<|S7.mp hp).elim λx q=>q.2▸have w:=xN.mp q.1;QM (h x.1<|uQ w.2▸w.1)
 all:=λn hm=>⟨_,S7.mpr<|eE.mpr ⟨(n,.free),xN.mpr ⟨hm,rfl⟩,rfl⟩⟩
 nd:=by
  rw[List.map_reverse]
  exact(ajc _).nodup_iff.mpr ((ajk (f:=λx:aq×eK=>(x.1,(env.cells.lookup x.1).getD 0)) (g:=fK)).symm▸hn.sublist (Jv fK Js))
end
section
variable{env:ff}{sc:Sc}{vs:Vs}{as:af Ad}
structure oq(sc:Sc)(scope:gR)(own:af aq):Prop where
 kind:scope.kind=.function
 BX:∀x∈scope.names,x.2≠.cell
 free:∀x∈scope.names,x.2=.free->sc.names.lookup x.1=ab .cell
 nodup:(scope.names.map (·.1)).Nodup
 MM:∀n∈own,scope.names.lookup n=ab .local
 apart:own.Nodup
theorem bC{a b:az}(h:(a&&b)=ae):a=ae/\b=ae:=dc.mp h
theorem QC{scope:gR}{own:af aq}(h:H6 sc scope own=ae):oq sc scope own:=
 have e:=bC h
 have d:=bC e.1
 have c:=bC d.1
 have b:=bC c.1
 have q:=λx hx=>bC (sP.mp b.2 x hx)
 ⟨eV b.1,λx hx=>eV (q x hx).1,λx hx hf=>(q5.mp (q x hx).2).elim (λz=>dk hf<|eV z) eV,wK c.2,λn hn=>eV (sP.mp d.2 n hn),wK e.2⟩
theorem ab3{n:aq}{k:eK}(h:k≠.free):uj sc n k=k:=br λq=>h q.1
theorem ab4{n:aq}(h:sc.names.lookup n=ab .cell):uj sc n .free=.cell:=a9 ⟨rfl,h⟩
theorem OS{n:aq}{k:eK}(h:uj sc n k=.cell)(hk:k≠.cell):k=.free/\sc.names.lookup n=ab .cell:=
 Jw λq=>hk ((br q).symm.trans h)
theorem Zr{k:eK}(h:tP k=.local\/tP k=.cell):k=.cell:=by
 cases k with
 |cell=>rfl|_=>exact h.elim (λq=>dk q aa) λq=>dk q aa
theorem Xk(ok:lY env sc)(scope:gR)(own:af aq):(relabel scope env).names=(fS sc scope own).names:=
 ajm λx _=>by
  show(if(x.2==.free&&env.scope.kind==.function&&env.kindOf x.1==ab .cell)=ae then(x.1,aix) else(x.1,x.2))=(x.1,if x.2=.free/\sc.names.lookup x.1=ab .cell then .cell else x.2)
  rw[ok.kindOf,ok.kind]
  by_cases h:x.2=.free/\sc.names.lookup x.1=ab .cell
  ·rw[a9 h,h.1,h.2];rfl
  ·rw[br h,br λq=>h ⟨uQ (bC (bC q).1).1,uQ (bC q).2⟩]
theorem aeY(ok:lY env sc){scope:gR}{own:af aq}(ci:oq sc scope own)(cl:af (aq×aP))(C:aP):lY (IY scope cl C env) (fS sc scope own):=
 ⟨ci.kind,Xk ok scope own,ok.gl,ok.bl⟩
theorem aaS{f:aq->eK->eK}{l:af (aq×eK)}{n:aq}:(l.map λx=>(x.1,f x.1 x.2)).lookup n=(l.lookup n).map (f n):=by
 induction l with
 |nil=>rfl|cons p l ih=>
  rw[mV,DQ,show(p::l).lookup n=match n==p.1 with|true=>ab p.2|false=>l.lookup n from DQ]
  by_cases h:n=p.1
  ·rw[h,beq_self_eq_true];rfl
  ·rw[beq_false_of_ne h];exact ih
theorem QA(scope:gR)(own:af aq)(n:aq):(fS sc scope own).names.lookup n=(scope.names.lookup n).map (uj sc n):=aaS
section
variable{scope:gR}{own:af aq}{i j:ai}{x:aq}{k:eK}
theorem QB(h:(fS sc scope own).names.lookup x=ab k):∃k',scope.names.lookup x=ab k'/\uj sc x k'=k:=sJ.mp ((QA scope own x).symm.trans h)
theorem Lq(hi:i<sc.slots.length)(h:(fS sc scope own).slots[i]?=ab (x,k)):∃k',sc.slots[i]?=ab (x,k')/\tP k'=k:=
 (sJ.mp<|(u7.symm.trans (u9<|(iF ..).symm▸hi).symm).trans h).elim λp q=>⟨p.2,q.1.trans (ay ab (Prod.ext (show p.1=x from ay fK q.2) rfl:p=(x,p.2))),ay iV q.2⟩
theorem Bt(hi:sc.slots.length<=i)(h:(fS sc scope own).slots[i]?=ab (x,k)):own[i-sc.slots.length]?=ab x/\eK.local=k:=by
 have e:=(Jr<|(iF ..).symm▸hi).symm.trans h
 rw[iF] at e
 exact(sJ.mp<|u7.symm.trans e).elim λn q=>⟨(show n=x from ay fK q.2)▸q.1,ay iV q.2⟩
theorem Qw(so:o9 sc)(ci:oq sc scope own):o9 (fS sc scope own):=λi j x k h1 h2 hk=>by
 have A8:∀{i:ai},i<sc.slots.length->(fS sc scope own).slots[i]?=ab (x,k)->sc.slots[i]?=ab (x,.cell)/\k=.cell:=λhi h=>(Lq hi h).elim λk' q=>have z:=Zr (q.2.symm▸hk);⟨z▸q.1,q.2.symm.trans<|ay tP z⟩
 rcases u5 i sc.slots.length with hi|hi<;>rcases u5 j sc.slots.length with hj|hj
 ·exact so i j x .cell (A8 hi h1).1 (A8 hj h2).1 (.inr rfl)
 ·exact nomatch (Bt hj h2).2.trans (A8 hi h1).2
 ·exact nomatch (Bt hi h1).2.trans (A8 hj h2).2
 ·have e1:=(Bt hi h1).1
  exact(Jh hi).symm.trans ((ay (·+sc.slots.length)<|(ajt (l8.mp e1).1 ci.apart).mp (e1.trans (Bt hj h2).1.symm)).trans (Jh hj))
theorem ae6{cl:af (aq×aP)}(ap:(gF env).Nodup)(h:∀p∈cl,env.cells.lookup p.1=ab p.2)(hn:(cl.map (·.1)).Nodup):(cl.map (·.2)).Nodup:=
 S6.mpr ((S6.mp hn).imp_of_mem λha hb ne e=>ne<|QL ap (h _ ha) (e▸h _ hb))
variable{cl:af (aq×aP)}{C:aP}{g h:aI}{F:af aP}{m:aq->aD aB}
theorem aeR(ci:oq sc scope own)(GY:vs.length=sc.slots.length)(fr:gH g h env sc vs as F)(K:Dl env scope cl){mv:MV}(h1:(fS sc scope own).slots[i]?=ab (x,k))(h2:(fS sc scope own).names.lookup x=ab k)
  (h3:(vs++eW own.length aw)[i]?=ab (ab mv)):∃v,At h (IY scope cl C env) k x v/\MR g as mv v:=by
 have hi:i<vs.length:=S0 λq=>nomatch (S8.mp<|xM ((Jr q).symm.trans h3)).2
 refine(Lq (GY▸hi) h1).elim λk₁ e=>(QB h2).elim λk₂ f=>?_
 have hk:=ci.BX _ (lK f.1)
 by_cases z:k₁=.cell
 ·have ek:aix=k:=(z▸e.2:tP .cell=k)
  subst ek
  have q:=OS f.2 hk
  exact(fr.lG i x .cell mv (z▸e.1) q.2<|(u9 hi).symm.trans h3).imp λv r=>⟨r.1.elim λc w=>(K.all x<|lK (q.1▸f.1)).elim λc' hc=>⟨c',tV K.nd hc,(show c=c' from cq<|w.1.symm.trans (K.cell _ hc))▸w.2⟩,r.2⟩
 ·have ek:I4=k:=(br z).symm.trans e.2
  subst ek
  by_cases y:k₂=.free
  ·exact nomatch (ab4<|ci.free (x,k₂) (lK f.1) y).symm.trans (y▸f.2:uj sc x .free=.free)
  ·exact dk ((ab3 y).symm.trans f.2) y
theorem aeV(ci:oq sc scope own)(GY:vs.length=sc.slots.length)(K:Dl env scope cl)(fr:gH g h env sc vs as F)(hn:h.Ns C m)(hg:g.get? C=aw)(hF:C∉F)(hC:C∉gF env):
  gH g h (IY scope cl C env) (fS sc scope own) (vs++eW own.length aw) as F where
 ns:=⟨m,hn⟩
 mK:=λp hp=>fr.mK p (lK<|K.cell p hp)
 ck:=λb hb=>(dX.mp hb).elim (λe=>e▸⟨hg,hF⟩) λhb=>(eE.mp hb).elim λp q=>q.2▸fr.ck p.2 (yZ<|K.cell p q.1)
 apart:=j3.mpr ⟨λq=>(eE.mp q).elim λp q=>hC ((show p.2=C from q.2)▸yZ (K.cell p q.1)),ae6 fr.apart K.cell K.nd⟩
 has:=λx hx=>(QB hx).elim λk q=>(K.all x<|lK ((OS q.2<|ci.BX _ (lK q.1)).1▸q.1)).elim λc q=>ay sM (tV K.nd q)
 lG:=λi x k mv h1 h2 h3=>aeR ci GY fr K h1 h2 h3
end
end
section
variable{c:Cx}{x y z:X}{e e' jv:aX}{pos:eJ}{vs:Vs}{as:af Ad}{μ μ₁ μ₂:Mo}
theorem cF.cR{g h:aI}{Fo:af aP}(T:cF c vs as μ μ₁)(n:cG c vs as μ)(tk:ai)(st:Step μ₁.g μ₁.h Fo g h)(hW:∀b∈Fo,μ.h.get? b=aw):cF c vs as μ ⟨g,h,μ₁.rs,tk⟩:=
 n.go (μ':=⟨g,h,μ₁.rs,tk⟩) (T.st.trans st λb hb=>.inr<|hW b hb) (T.aQ.rel.step st λb hb q=>iO (hW b q)<|n.alloc T b hb) T.sub
theorem Step.ext{g h gi hi h':aI}{F W:af aP}(a:Step g h F gi hi)(k:∀b o,b∉W->hi.get? b=ab o->h'.get? b=ab o)(hW:∀b∈W,h.get? b=aw/\gi.get? b=aw):Step g h F gi h' where
 gg:=a.gg
 gh:=λb o e=>k b o (λq=>by rw[(hW b q).2] at e;cases e) (a.gh b o e)
 frame:=λb o e hb=>k b o (λq=>by rw[(hW b q).1] at e;cases e) (a.frame b o e hb)
 new:=a.new
 f7:=λb e=>by
  cases q:h.get? b with
  |none=>rfl|some o=>
   have hb:b∉W:=λz=>by rw[(hW b z).1] at q;cases q
   cases q':hi.get? b with
   |none=>have:=a.f7 b q';rw[q] at this;cases this|some o'=>rw[k b o' hb q'] at e;cases e
theorem cF.ext{h':aI}{Fo:af aP}(T:cF c vs as μ μ₁)(n:cG c vs as μ)(tk:ai)(k:∀b o,b∉Fo->μ₁.h.get? b=ab o->h'.get? b=ab o)(hW:∀b∈Fo,μ.h.get? b=aw/\μ₁.g.get? b=aw):cF c vs as μ ⟨μ₁.g,h',μ₁.rs,tk⟩:=
 have st:=T.st.ext k hW
 n.go (μ':=⟨μ₁.g,h',μ₁.rs,tk⟩) st ⟨st.gh,T.aQ.rel.len,λi r a h1 h2=>(T.aQ.rel.root i r a h1 h2).step (.refl _) λb hb o e=>k b o (λq=>iO (hW b q).1<|n.alloc T b (lQ h1 h2 hb)) e,T.aQ.rel.nodup,T.aQ.rel.ck⟩ T.sub
theorem aha{g:aI}{s:aZ}{prog:cC}{w:dv}{A:fJ}{D:aP}{xs:af V}{v:aB}{d:V}{Q:aB->aZ->Prop}(x:fx g s.heap D xs)(r:Rd g v d)(hz:xs.length<=100000)
  (k:∀h',jD D s.heap h'->fx g h' D (xs++[d])->Q .none {s with heap:=h'}):aT (bH prog w) A (call (.builtin "list.append") [.ref D,v]) Q No s:=by
 exact x.elim λitems x=>x.elim λn x=>xC R8 (akj ⟨_,x.1,rfl,n,rfl⟩) ah5
  (show aT _ _ (updateSeq D (·.push v)>>=λ_=>ret .none) _ _ s from aY<|IE x.1 rfl (b7 ⟨.none,rfl,k _ (DH ..)<|fx.rn x.1 ((Jy ..).symm▸x.2.vU r)⟩) (o3<|x.2.bS.symm▸hz) (aj (bA<|ajJ ..)<|aj (bG<|x.2.bS.symm▸hz) aa)) (aif _ _)
theorem PJ:∀(l:af (ai×V))(vs:Vs),(l.foldl (λvs p=>vs.set p.1<|ab (.val p.2)) vs).length=vs.length
 |[],_=>rfl|p::l,vs=>(PJ l _).trans pC
theorem Ie{tg:Tg}{d:V}{vs eB:Vs}(h:hO tg d vs=ab eB):eB.length=vs.length:=by
 cases tg with
 |name i=>cases h;exact pC|aC is=>
  simp only [hO] at h
  split at h
  ·obtain⟨_,rfl⟩:=eC h;exact PJ _ _
  ·cases h
noncomputable abbrev Cx.sub(c:Cx)(env:ff)(sc:Sc):Cx:={c with env:=env,sc:=sc}
theorem cF.nX{env:ff}{sc:Sc}{iH:Vs}(T:cF c vs as μ μ₁)(T':cF (c.sub env sc) iH as μ₁ μ₂):cF c vs as μ μ₂:=T.trans (T.aQ.go T'.st T'.aQ.rel T'.sub)
abbrev xu(c:Cx)(ifs:af aX)(x:X):Prop:=Go c (forIn ifs ae λe r=>if r=ae then do let ok <-isTrue e c.env (eR e c.env);pure (l9 ok) else pure (l9 r)) (λrs vs os K=>wT c.C c.cb x rs vs os λ_=>K) λ_ _ _ b b'=>b=b'
abbrev oH(c:Cx)(el co:X)(ni:ai)(tg:Tg)(vs:Vs):V->Rs->Os->(aD V->Rs->Os->Prop)->Prop:=λx rs os K=>b4 (hO tg x<|vs++eW ni aw) os λvs os=>wX c.C c.cb co rs vs os λm rs os=>lT (fM m rs) os λb os=>match b with
 |true=>wX c.C c.cb el rs vs os λm rs os=>b4 (jr m rs) os λp os=>K (ab p.1) p.2 os|false=>K aw rs os
structure lZ(c:Cx)(vs:Vs)(as:af Ad)(μ μ':Mo)(D L:aP)(ys:af V):Prop where
 ft:cF c vs as μ μ'
 ah:fx μ'.g μ'.h D ys
 gD:μ'.g.get? D=aw
 ns:∃m,μ'.h.Ns L m
 gL:μ'.g.get? L=aw
theorem lZ.step{μ':Mo}{D L:aP}{ys:af V}{Fo:af aP}(P:lZ c vs as μ μ₁ D L ys)(T:cF c vs as μ μ')(st:Step μ₁.g μ₁.h Fo μ'.g μ'.h)(hD:D∉Fo)(hL:L∉Fo):lZ c vs as μ μ' D L ys where
 ft:=T
 ah:=P.ah.step st.gg λo e=>st.frame _ _ e hD
 gD:=st.ck P.gD P.ah.some hD
 ns:=P.ns.imp λ_ q=>q.elim λo q=>q.elim λes q=>q.elim λep q=>⟨o,es,ep,st.frame _ _ q.1 hL,q.2⟩
 gL:=st.ck P.gL (P.ns.elim λ_ q=>q.elim λo q=>q.elim λes q=>q.elim λep q=>by rw[q.1];rfl) hL
structure Af(c:Cx)(μ:Mo)(D L:aP):Prop where
 sD:μ.h.get? D=aw
 sL:μ.h.get? L=aw
 zK:D≠jl
 ne:D≠L
structure Iz(h h₁:aI)(D L:aP):Prop where
 up:Le h h₁
 sD:h.get? D=aw
 sL:h.get? L=aw
 zK:D≠jl
 ne:D≠L
 ah:h₁.get? D=ab {cls:=.type "list",data:=.seq ([]:af aB).toArray}
theorem Oj{H h₁:aI}{o:pj}(bU:jz H)(sb:jD (H.push {cls:=.type "list",data:=.seq ([]:af aB).toArray}).objs.size ((H.push {cls:=.type "list",data:=.seq ([]:af aB).toArray}).push o) h₁):Iz H h₁ H.objs.size (H.push {cls:=.type "list",data:=.seq ([]:af aB).toArray}).objs.size:=
 have e:(H.push {cls:=.type "list",data:=.seq ([]:af aB).toArray}).objs.size=H.objs.size+1:=SH ..
 have sL:=CH (h:=H) (aj (aR _)<|bA e.symm)
 have ne:=Aw (Jk (pz _) e.symm)
 ⟨λb o k=>sb.extBut b o (λq=>gK (q▸k) sL) (gI _ _ _ _ (gI _ _ _ _ k)),fN H,sL,bU.qA,ne,sb.extBut _ _ ne<|gI _ _ _ _ (lz H rfl)⟩
structure Dk(c:Cx)(vs:Vs)(as:af Ad)(μ:Mo)(D L:aP)(St:ai->aI->aI->Prop)(xs:af V)(tw:V->Rs->Os->(aD V->Rs->Os->Prop)->Prop)(K:af V->Rs->Os->Prop)(i:ai)(μi:Mo)(dn:af V)(os:Os)(Kf:af V->Rs->Os->Prop):Prop where
 pe:lZ c vs as μ μi D L dn
 st:St i μi.g μi.h
 le:i<=xs.length
 go:lj tw (xs.drop i) μi.rs os Kf
 a6:∀ys rs os,Kf ys rs os->K (dn++ys) rs os
 len:dn.length<=i
noncomputable def RK(c:Cx)(vs:Vs)(as:af Ad)(μ:Mo)(D L:aP)(St:ai->aI->aI->Prop)(xs:af V)(tw:V->Rs->Os->(aD V->Rs->Os->Prop)->Prop)(K:af V->Rs->Os->Prop)(k:ai)(s:aZ):Prop:=
 ∃i μi dn os Kf,k=xs.length-i+1/\s=c.st μi/\Dk c vs as μ D L St xs tw K i μi dn os Kf
structure IA(c:Cx)(env:ff)(sc:Sc)(L:aP)(vs:Vs)(ni:ai)(tg:Tg):Prop where
 ok:lY env sc
 so:o9 sc
 se:pM sc tg=ae
 wr:∀id∈yp sc tg,Wr env sc [L] id
 fr:∀{g h:aI}{as:af Ad}{F:af aP}{m:aq->aD aB},gH g h c.env c.sc vs as F->h.Ns L m->g.get? L=aw->L∉F->gH g h env sc (vs++eW ni aw) as F
 len:(vs++eW ni aw).length=sc.slots.length
 N0:env.locals=L
section
variable{env:ff}{sc:Sc}{elt te:aX}{ifs:af aX}{tg:Tg}{el co:X}{I D L:aP}{wr:af aP}{xs:af V}{St:ai->aI->aI->Prop}{K:af V->Rs->Os->Prop}{R:Result->aZ->Prop}{ni:ai}{Inv:ai->aZ->Prop}
noncomputable abbrev Fy(Kf:af V->Rs->Os->Prop)(o:aD V):af V->Rs->Os->Prop:=λys rs os=>Kf (match o with|some y=>y::ys|none=>ys) rs os
theorem aeW{i:ai}{μi:Mo}{dn:af V}{h':aI}(n:cG c vs as μ)(J:qP c.prog c.w c.A (gG sc tg te) I wr xs St)(lO:∀b∈wr,μ.h.get? b=aw)(oQ:∀b∈wr,b≠D/\b≠L)(P:lZ c vs as μ μi D L dn)(st:St i μi.g μi.h)(tk:ai)
  (kp:∀b o,b∉wr->μi.h.get? b=ab o->h'.get? b=ab o):lZ c vs as μ ⟨μi.g,h',μi.rs,tk⟩ D L dn:=
 ⟨P.ft.ext n tk kp λb hb=>⟨lO b hb,(J.live i _ _ st b hb).2⟩,P.ah.step (.refl _) λo e=>kp _ o (λq=>(oQ D q).1 rfl) e,P.gD,P.ns.imp λ_ q=>q.elim λo q=>q.elim λes q=>q.elim λep q=>⟨o,es,ep,kp _ _ (λq=>(oQ L q).2 rfl) q.1,q.2⟩,P.gL⟩
theorem lZ.ZX{μ':Mo}{h':aI}{dn:af V}(P:lZ c vs as μ μ' D L dn)(sb:jD D μ'.h h')(ne:D≠L):∃m,h'.Ns L m:=P.ns.imp λ_ q=>q.elim λo q=>q.elim λes q=>q.elim λep q=>⟨o,es,ep,(sb.2 _ (Ne.symm ne)).trans q.1,q.2⟩
theorem aeT{i:ai}{μi:Mo}{dn:af V}{os:Os}{Kf:af V->Rs->Os->Prop}{y:V}{v:aB}{rest:af V}{tw:V->Rs->Os->(aD V->Rs->Os->Prop)->Prop}{Q:aB->aZ->Prop}(n:cG c vs as μ)(N:Af c μ D L)(J:qP c.prog c.w c.A (gG sc tg te) I wr xs St)(oQ:∀b∈wr,b≠D/\b≠L)(hz:xs.length<=100000)
  (P:lZ c vs as μ μi D L dn)(st:St (i+1) μi.g μi.h)(d6:i<xs.length)(hr:xs.drop (i+1)=rest)(gE:lj tw rest μi.rs os (Fy Kf<|ab y))(a6:∀ys rs os,Kf ys rs os->K (dn++ys) rs os)(len:dn.length<=i)(r:Rd μi.g v y)
  (k:∀h',Dk c vs as μ D L St xs tw K (i+1) ⟨μi.g,h',μi.rs,μi.tk⟩ (dn++[y]) os (Fy Kf<|ab y)->Q .none (c.st ⟨μi.g,h',μi.rs,μi.tk⟩)):aT (bH c.prog c.w) c.A (call (.builtin "list.append") [.ref D,v]) Q No (c.st μi):=
 aha (s:=c.st μi) P.ah r (aj len<|aj (Ay d6) hz) λh₁ sb l=>k h₁ (
  have sp:=vS P.ft.aQ.le P.gD sb l.some
  ⟨⟨P.ft.cR n μi.tk sp λb hb=>cU.mp hb▸N.sD,l,P.gD,P.ZX sb N.ne,P.gL⟩,J.step _ _ _ _ _ _ st P.ft.aQ.le sp (λb hb q=>(oQ b hb).1<|cU.mp q),d6,hr▸gE,λys rs os q=>(oz dn [y] ys).symm▸a6 _ rs os q,(eX).symm▸bG len⟩)
theorem aeQ(F:b6 c)(X:IA c env sc L vs ni tg)(IB:Sx (c.sub env sc) elt el)(IC:xu (c.sub env sc) ifs co)
  (n:cG c vs as μ)(N:Af c μ D L)(J:qP c.prog c.w c.A (gG sc tg te) I wr xs St)(lO:∀b∈wr,μ.h.get? b=aw)(oQ:∀b∈wr,b≠D/\b≠L)(hz:xs.length<=100000)
  (hRR:∀ys μ' os,lZ c vs as μ μ' D L ys->K ys μ'.rs os->R (.ok .next) (c.st μ'))(mk:∀i μi dn os Kf,Dk c vs as μ D L St xs (oH c el co ni tg vs) K i μi dn os Kf->Inv (xs.length-i+1) (c.st μi))
  {i:ai}{μi:Mo}{dn:af V}{os:Os}{Kf:af V->Rs->Os->Prop}(P:Dk c vs as μ D L St xs (oH c el co ni tg vs) K i μi dn os Kf):
  aT (bH c.prog c.w) c.A (Dv<|.ref I) (λr aA=>(r=aw/\R (.ok .next) aA)\/∃v,r=ab v/\
   aT (bH c.prog c.w) c.A (letOwnedTupleGo (gG sc tg te) (.ref I) v) (λ_ vR=>aT (bH c.prog c.w) c.A (jY (gG sc tg te) env v) (λ_ aS=>
     aT (bH c.prog c.w) c.A (forIn ifs ae λe r=>if r=ae then do let ok <-isTrue e env (eR e env);pure (l9 ok) else pure (l9 r)) (λok i5=>
      if ok=ae then aT (bH c.prog c.w) c.A (eR elt env) (λx vQ=>aT (bH c.prog c.w) c.A (call (.builtin "list.append") [.ref D,x]) (λ_ Bk=>∃m,m<xs.length-i+1/\Inv m Bk) No vQ) No i5
      else∃m,m<xs.length-i+1/\Inv m i5) No aS) No vR) No aA) No (c.st μi):=by
 have gE:=P.go
 cases hd:xs.drop i with
 |nil=>exact J.done i μi.g (c.st μi) (Jm P.le<|ajy.mp hd) P.st P.pe.ft.aQ.le _ λh' tk kp=>.inl ⟨rfl,hRR dn ⟨μi.g,h',μi.rs,tk⟩ os (aeW (te:=te) n J lO oQ P.pe P.st tk kp)<|fy dn▸P.a6 [] _ _ (show lj (oH c el co ni tg vs) [] μi.rs os Kf from hd▸gE)⟩|cons y rest=>
  have d6:i<xs.length:=ai6 P.le λq=>by rw[q,ajx] at hd;cases hd
  have hr:xs.drop (i+1)=rest:=by rw[<-ajb,hd];rfl
  have hy:xs[i]?=ab y:=by rw[<-ajr,hd];rfl
  have gE:lj (oH c el co ni tg vs) (y::rest) μi.rs os Kf:=hd▸gE
  have gE:oH c el co ni tg vs y μi.rs os λo rs os=>lj (oH c el co ni tg vs) rest rs os (Fy Kf o):=gE
  have hk:xs.length-(i+1)+1<xs.length-i+1:=aiZ (Nat.sub_lt_sub_left d6<|pz i)
  clear hd
  have not:∀b,μ.h.get? b=aw->b∉bp μi.rs as:=λb e q=>iO e (n.alloc P.pe.ft b q)
  refine fq (J.next i μi.g (c.st μi) y hy P.st P.pe.ft.aQ.le (λv vR=>aT (bH c.prog c.w) c.A (jY (gG sc tg te) env v) _ No vR) λv dw h₁ oJ sp lD rv=>?_) (λr aA hr=>.inr hr) λ_ _ z=>z
  have eP:=P.pe.ft.cR n oJ sp lO
  have z8:=P.pe.step eP sp (λq=>(oQ D q).1 rfl) λq=>(oQ L q).2 rfl
  refine b4.on gE λiH hb gE=>z8.ns.elim λmL hmL=>Ii (W:=[L]) F.gJ.hd X.ok X.so eP.aQ.le (X.fr eP.aQ.jc hmL z8.gL<|not L N.sL) X.se rv hb X.wr λcH iI md o2=>?_
  have bo:cF c vs as μ ⟨dw,cH,μi.rs,iI⟩:=eP.cR n iI md λb hb=>cU.mp hb▸N.sL
  have ahr:lZ c vs as μ ⟨dw,cH,μi.rs,iI⟩ D L dn:=⟨bo,z8.ah.step (.refl _) λo eo=>md.frame _ _ eo λq=>N.ne (cU.mp q),z8.gD,X.N0▸o2.ns,z8.gL⟩
  have nC:cG (c.sub env sc) iH as ⟨dw,cH,μi.rs,iI⟩:=⟨bo.aQ.gl,bo.aQ.rel,o2,(Ie hb).trans X.len⟩
  refine IC nC gE λjo b b' iN dC eb gE=>?_
  have go:∀μ',cF (c.sub env sc) iH as ⟨dw,cH,μi.rs,iI⟩ μ'->lZ c vs as μ μ' D L dn/\St (i+1) μ'.g μ'.h:=λμ' T=>⟨ahr.step (bo.nX T) T.st (not D N.sD) (not L N.sL),J.step _ _ _ _ _ _ (J.step _ _ _ _ _ _ lD eP.aQ.le md λb hb q=>(oQ b hb).2<|cU.mp q) bo.aQ.le T.st λb hb=>not b<|lO b hb⟩
  subst eb
  cases b with
  |false=>exact(br ed).mpr ⟨_,hk,mk (i+1) jo dn iN _ ⟨(go jo dC).1,(go jo dC).2,d6,hr▸gE,P.a6,j2 P.len⟩⟩|true=>exact(a9 rfl).mpr (IB dC.aQ gE λvg m v iN ji yn gE=>b4.on gE λp e5 gE=>(yn.keep dC.aQ ji e5).elim λPx q=>
    have G:=go ⟨Px,vg.h,p.2,vg.tk⟩ (dC.trans q.1)
    aeT (te:=te) (μi:=⟨Px,vg.h,p.2,vg.tk⟩) n N J oQ hz G.1 G.2 d6 hr gE P.a6 P.len q.2.1 λh' I=>⟨_,hk,mk _ _ _ _ _ I⟩)
end
noncomputable abbrev Aa(e:aX):Prop:=∀(env:ff)(x:aB),foldedSetIterable e env x=pure x
theorem oq.names{sc:Sc}{scope:gR}{own:af aq}(ci:oq sc scope own):∀x∈scope.names,x.2=.local->scope.names.lookup x.1=ab .local:=λx hx hk=>tV ci.nodup (hk▸hx)
theorem aeX{tw:V->Rs->Os->(aD V->Rs->Os->Prop)->Prop}{xs:af V}{rs:Rs}{os:Os}{K:af V->Rs->Os->Prop}(h:CS tw xs rs os K):∃os hY,lj tw xs rs os hY/\(∀ys rs os,hY ys rs os->∃os,K ys rs os)/\xs.length<=100000:=by
 unfold CS at h
 cases e:PA os with
 |none=>rw[e] at h;exact b4.on h λ_ z h=>⟨os,K,h,λys rs os q=>⟨os,q⟩,eV<|A6 z⟩
 |some q=>rw[e] at h;exact h.1.1.elim λiN h'=>⟨iN,_,h',λys rs os p=>⟨q.2.2,by rw[p.1,p.2];exact h.2⟩,h.1.2⟩
theorem ab1{scope:gR}{own:af aq}{cl:af (aq×aP)}{tg:Tg}{L:aP}(F:b6 c)(ci:oq c.sc scope own)(se:pM (fS c.sc scope own) tg=ae)(G6:yp (fS c.sc scope own) tg=own)(K:Dl c.env scope cl)(n:cG c vs as μ)(sL:μ.h.get? L=aw):
  IA c (IY scope cl L c.env) (fS c.sc scope own) L vs own.length tg where
 ok:=aeY F.ok ci cl L
 so:=Qw F.so ci
 se:=se
 wr:=λid hid=>
  have hl:(fS c.sc scope own).names.lookup id=ab .local:=(QA ..).trans (ay (gv _)<|ci.MM id (G6▸hid))
  ⟨λ_=>cU.mpr rfl,λq=>nomatch hl.symm.trans q⟩
 fr:=λfr hn hg hF=>aeV ci n.len K fr hn hg hF λq=>iO sL (n.jc.alloc q)
 len:=by
  show _=((c.sc.slots.map λ(x:aq×eK)=>(x.1,tP x.2))++own.map λn=>(n,eK.local)).length
  rw[eX,eX,ajp,iF,iF,n.len]
 N0:=rfl
theorem aeS{env:ff}{sc:Sc}{elt te iter:aX}{ifs:af aX}{scope:gR}{tg:Tg}{el co:X}{I D L:aP}{wr:af aP}{xs:af V}{St:ai->aI->aI->Prop}{K hY:af V->Rs->Os->Prop}{R:Result->aZ->Prop}{ni:ai}{h₁:aI}{m:aq->aD aB}{os:Os}(F:b6 c)(X:IA c env sc L vs ni tg)
  (IB:Sx (c.sub env sc) elt el)(IC:xu (c.sub env sc) ifs co)(n:cG c vs as μ)(T:cF c vs as μ μ₁)(Z:Iz μ₁.h h₁ D L)(ns:h₁.Ns L m)(J:qP c.prog c.w c.A (gG sc tg te) I wr xs St)(lO:∀b∈wr,μ.h.get? b=aw)(st:St 0 μ₁.g μ₁.h)
  (h:lj (oH c el co ni tg vs) xs μ₁.rs os hY/\(∀ys rs os,hY ys rs os->∃os,K ys rs os)/\xs.length<=100000)(tk:ai)(hR:∀ys μ' os,lZ c vs as μ μ' D L ys->Af c μ D L->K ys μ'.rs os->R (.ok .next) (c.st μ')):
  Sr (bH c.prog c.w) c.A (.compStart (.ListComp elt [⟨gG sc tg te,iter,ifs,0⟩] scope pos) 0 (.ref I) (.ref D) env) R (c.st ⟨μ₁.g,h₁,μ₁.rs,tk⟩):=
 have N:Af c μ D L:=⟨T.st.f7 D Z.sD,T.st.f7 L Z.sL,Z.zK,Z.ne⟩
 have lD:=J.step 0 _ _ _ _ [] st T.aQ.le (.fm [] T.aQ.le Z.up) λ_ _ q=>nomatch q
 have nZ:=aeU (pos:=pos) (iter:=iter) (scope:=scope) (R:=R) (RK c vs as μ D L St xs (oH c el co ni tg vs) λys rs _=>∃os,K ys rs os)
  (λk s hI=>hI.elim λi q=>q.elim λμi q=>q.elim λdn q=>q.elim λos q=>q.elim λKf q=>q.1▸q.2.1▸aeQ (Inv:=RK c vs as μ D L St xs (oH c el co ni tg vs) λys rs _=>∃os,K ys rs os) (te:=te) F X IB IC n N J lO
   (λb hb=>have s:=(J.live 0 _ _ st b hb).1;⟨λq=>iO Z.sD (q▸s),λq=>iO Z.sL<|q▸s⟩) h.2.2 (λys μ' _ E h=>Exists.elim h λos h=>hR ys μ' os E N h) (λi μi dn os Kf P=>⟨i,μi,dn,os,Kf,rfl,rfl,P⟩) q.2.2)
  ⟨0,⟨μ₁.g,h₁,μ₁.rs,tk⟩,[],os,hY,rfl,rfl,⟨T.trans (T.aQ.fm tk Z.up),⟨#[],_,Z.ah,.nil⟩,T.aQ.le.none Z.sD,⟨_,ns⟩,T.aQ.le.none Z.sL⟩,lD,bQ _,h.1,h.2.1,aF _⟩
 ah9 nZ (fq (J.yA 0 μ₁.g _ _ lD nZ) (λ_ _ h=>h) λ_ _ z=>z.elim)
structure Dj(c:Cx)(scope:gR)(own:af aq)(tg:Tg)(el co:X)(eU:IK)(x:X)(elt it:aX)(arg:aX->aX)(ifs:af aX):Prop where
 ci:oq c.sc scope own
 se:pM (fS c.sc scope own) tg=ae
 G6:yp (fS c.sc scope own) tg=own
 hk:zk c.sc eU tg=ae
 zt:Aa (k9 eU it arg)
 he:Sy c (arg<|zj eU it) x
 zy:∀env,lY env (fS c.sc scope own)->Sx (c.sub env<|fS c.sc scope own) elt el
 w9:∀env,lY env (fS c.sc scope own)->xu (c.sub env<|fS c.sc scope own) ifs co
section
variable{elt te it:aX}{arg:aX->aX}{ifs:af aX}{scope:gR}{own:af aq}{tg:Tg}{el co:X}{eU:IK}
theorem Qx{os:Os}{K:af V->Rs->Os->Prop}{use:aD (aB->eD Unit)}{Q:aB->aZ->Prop}(F:b6 c)(C:Dj c scope own tg el co eU x elt it arg ifs)(n:cG c vs as μ)
  (h:wX c.C c.cb x μ.rs vs os λm rs os=>b4 (t8 eU m rs) os λp os=>CS (oH c el co own.length tg vs) p.1 p.2 os K)
  (hU:∀ys μ' os D L,lZ c vs as μ μ' D L ys->Af c μ D L->K ys μ'.rs os->compPost (bH c.prog c.w) c.A No use Q (.ref D) L (.ok .next) (c.st μ')):
  aT (bH c.prog c.w) c.A (ah8 (.ListComp elt [⟨gG (fS c.sc scope own) tg te,k9 eU it arg,ifs,0⟩] scope pos) scope c.env (firstIterPos [⟨gG (fS c.sc scope own) tg te,k9 eU it arg,ifs,0⟩] pos) (Sj []) ag (eR (k9 eU it arg) c.env) use) Q No (c.st μ):=
 have Kc:=ae0 (env:=c.env) (scope:=scope) (λnm hnm=>n.jc.has nm<|C.ci.free _ hnm rfl) C.ci.nodup
 wpAny_comprehension_free rfl (C.zt c.env) Kc.eq C.ci.kind C.ci.names (OC (te:=te) F C.hk C.he (fS c.sc scope own) n h λμ₂ xs os I wr St bo J sf lO h=>(aeX h).elim λos h=>h.elim λhY h=>
  Aj (ahG C.ci.BX (λy hy=>nomatch hy) (λh₁ ns sb=>
   have Z:=Oj bo.aQ.bU sb
   have X:=ab1 F C.ci C.se C.G6 Kc n (bo.st.f7 _ Z.sL)
   aeS (te:=te) F X (C.zy _ X.ok) (C.w9 _ X.ok) n bo Z ns J lO sf h _ λys μ' os E N h=>hU ys μ' os _ _ E N h) C.ci.kind))
theorem Qy(F:b6 c)(C:Dj c scope own tg el co eU x elt it arg ifs):Sx c (.ListComp elt [⟨gG (fS c.sc scope own) tg te,k9 eU it arg,ifs,0⟩] scope pos) (.comp el own.length tg eU x co):=λvs as μ os K Q n h k=>by
 rw[eval_ListComp]
 exact Qx (K:=λys rs os=>K (.own<|.ah ys) rs os) F C n h λys μ' os D L E N hK=>E.ns.imp λm nL=>⟨nL,λh' sb=>k ⟨μ'.g,h',μ'.rs,μ'.tk⟩ _ _ os (E.ft.ext (Fo:=[L]) n μ'.tk (λb o hb eo=>(sb.2 b λq=>hb<|cU.mpr q).trans eo) λb hb=>cU.mp hb▸⟨N.sL,E.gL⟩)
  (have l:=E.ah.step (h':=h') (.refl _) λo eo=>(sb.2 _ N.ne).trans eo
  TM.yR (r:=.ah ys) nofun rfl l E.gD N.sD l.some N.zK) hK⟩
end
end
section
variable{prog:cC}{w:dv}{A:fJ}{N:ai}
theorem acU(b:aP):({}:aI).get? b=aw:=by unfold aiz;rfl
theorem Of(h:aI):Le {} h:=λb o e=>gK e (acU b)
noncomputable def xc(v:aB):az:=match v with
 | .str s _=>!decide (s.cps[0]?=ab 35)|_=>ae
theorem adi{x:aq}(h0:x.length≠0)(h1:x.length<=100000):∃c,x.cps[0]?=ab c/\Cr (.str x) (.int 0)=ab (.str ⟨#[c]⟩):=
 have hx:0<x.cps.size:=Nat.pos_of_ne_zero h0
 ⟨x.cps[0],JB hx,by
  show(lI 0 x.length).bind _=_
  rw[BL (ajD 0) (oA.mpr<|show 0<x.length from hx) h1]
  exact ay (gv _)<|JB hx⟩
theorem adh{x:aq}{c:ai}{t:mR}(hc:x.cps[0]?=ab c):(!jZ (.str ⟨#[c]⟩) (.str ⟨#[35]⟩))=xc (.str x t):=by
 show(!decide ((⟨#[c]⟩:aq)=⟨#[35]⟩))=!decide (x.cps[0]?=ab 35)
 rw[hc]
 exact ay (!·) (decide_eq_decide.mpr ⟨λe=>ay (λs:aq=>s.cps[0]?) e,λe=>cq e▸rfl⟩)
theorem acG{x:aq}{c₁ c₂ uJ:eJ}{k₁ k₂:ai}{env:ff}{s:aZ}{nm:aq}{t:mR}{m:aq->aD aB}(gJ:Ok A N)(hk:env.scope.kind=.function)(hl:env.kindOf nm=ab .local)(hd:(nm==("__debug__":aq))=ag)(hn:s.heap.Ns env.locals m)(hm:m nm=ab (.str x t))(h0:x.length≠0)(h1:x.length<=100000)(uw:fc x=ae){p uI:eJ}:
  aT (bH prog w) A (isTrue (.Compare (.Subscript (.Name nm c₁) (.Constant (.int 0) k₁ c₂) uJ) [.NotEq] [.Constant (.str ⟨#[35]⟩) k₂ uI] p) env<|eR (.Compare (.Subscript (.Name nm c₁) (.Constant (.int 0) k₁ c₂) uJ) [.NotEq] [.Constant (.str ⟨#[35]⟩) k₂ uI] p) env)
   (λok vQ=>ok=xc (.str x t)/\Keeps s vQ) No s:=
 (adi h0 h1).elim λc q=>ahH (C7<|R2 (RZ hk hl hn hm<|R3 (
  (GL (prog:=prog) (w:=w) (A:=A) (g:={}) (s:={s with toks:=s.toks+1}) (o:=.str x t) (i:=.int 0 s.toks) (Of _) (show Vw {} s.heap (.str x t) (.str x) from Rd.str _ uw) (Rd.int 0 s.toks) q.2).imp λT z=>z.imp λid z=>⟨z.1,z.2.1,
   fq z.2.2 (λv aA y=>y.elim λdw y=>y.elim λh₁ y=>y.elim λoJ y=>y.1▸Dr (
    have r:Rd dw v (.str ⟨#[c]⟩):=y.2.2
    fq (HW (g:={}) (s:={s with heap:=h₁,toks:=oJ+1}) gJ (Of _) (show Vw {} h₁ v (.str ⟨#[c]⟩) from r.yr.elim λt q=>q▸Rd.str t r.strOk) (show Vw {} h₁ (.str ⟨#[35]⟩ oJ) (.str ⟨#[35]⟩) from Rd.str _ (by decide+kernel))<|a9 (bQ 100)).2
     (λu aS u=>u.elim λgM u=>u.elim λcH u=>u.elim λiI u=>u.1▸u.2.2▸RW ⟨adh q.1,cH,iI,rfl,λb o e=>u.2.1.frame b o (y.2.1.frame b o e gA) gA⟩) λ_ _ z=>z)) λ_ _ z=>z⟩)) hd) rfl
theorem adl{g:aI}{R:aB->V->Prop}{us:af aB}{kv:af (aq×aB)}(h:a7 (λv p=>∃t,v=.str p.1 t) us kv):∀{bc:af (aq×V)},a7 (λp q=>p.1=q.1/\R p.2 q.2) kv bc->(∀q∈bc,fc q.1=ae)->
  a7 (Rd g) (us.filter xc) ((bc.map (·.1)).filterMap λs=>if s.cps[0]?=ab 35 then aw else ab (.str s)):=by
 induction h with
 |nil=>intro bc k _;cases k;exact .nil|cons h _ ih=>
  intro bc k hs
  cases k with
  |cons k1 k2=>
   refine h.elim λt e=>?_
   rw[k1.1] at e
   subst e
   have ih:=ih k2 λq hq=>hs q (.tail _ hq)
   rw[mV,xP,mW]
   rename_i q bc
   by_cases z:q.1.cps[0]?=ab 35
   ·rw[a9 z,br<|show ¬xc (.str q.1 t)=ae fromλw=>dk ((ay (!·)<|gQ z).symm.trans w) ed];exact ih
   ·rw[br z,a9<|show xc (.str q.1 t)=ae from ay (!·) (uR z)];exact .cons (Rd.str t<|hs q (.head _)) ih
theorem Y2{us ys:af aB}(h:Paired (λv y=>y=v) us ys):ys=us:=by
 induction h with
 |nil=>rfl|cons h _ ih=>rw[h,ih]
theorem ahm{α β:Type}{R:α->β->Prop}{xs:af α}:∀{ys:af β},xs.length=ys.length->(∀(j:ai)(x:α),xs[j]?=ab x->∃y,ys[j]?=ab y/\R x y)->a7 R xs ys:=by
 induction xs with
 |nil=>intro ys e _;cases ys with
  |nil=>exact .nil|cons y ys=>cases e
 |cons x xs ih=>intro ys e h;cases ys with
  |nil=>cases e|cons y ys=>exact .cons ((h 0 x rfl).elim λy' q=>cq q.1▸q.2) (ih (DL e) λj x hx=>h (j+1) x hx)
end
section
variable{c:Cx}{x:X}{pos:eJ}
theorem abk{a m:MV}{rs:Rs}(e:GD a rs=ab m):∃j q,a=.vars j/\kK (fo rs j)=ab q/\((∀p∈q.1,p.1.length≠0/\fc p.1=ae/\p.1.length<=100000)/\q.1.length<=100000)/\.own (.ah<|(q.1.map (·.1)).filterMap λs=>if s.cps[0]?=ab 35 then aw else ab (.str s))=m:=
 bind.on e λp e1 e=>(ym e1).elim λha q=>q.elim λq hq=>(eC e).elim λh em=>⟨p.1,q,ha,hq.1,hq.2▸⟨λp hp=>(bC<|sP.mp (bC h).1 p hp).imp bne_iff_ne.mp λz=>(bC z).imp id eV,eV (bC h).2⟩,hq.2▸em⟩
theorem abh{vs:Vs}{as:af Ad}{μ μ₁:Mo}{Q:aB->aZ->Prop}{nm:aq}{c₁ c₂ uJ CR uI px pc:eJ}{k₁ k₂:ai}{it:aX}{scope:gR}{kv:af (aq×aB)}{bc:af (aq×V)}{d D L:aP}{ep:ai}{H ez:aI}(F:b6 c)(hd:(nm==("__debug__":aq))=ag)(ci:oq c.sc scope [nm])(T:cF c vs as μ μ₁)
  (hm:μ₁.h.DictAt (iT c.prog c.w) d kv ep)(hk:a7 (λp q=>p.1=q.1/\Rd μ₁.g p.2 q.2) kv bc)(oY:∀p∈bc,p.1.length≠0/\fc p.1=ae/\p.1.length<=100000)(hlen:bc.length<=100000)
  (hI:H.IsKeyIter μ₁.h.objs.size d 0 kv.length ep)(up:Le μ₁.h H)(Z:Iz H ez D L)(zv:ez.Ns L λx=>([]:af (aq×aB)).reverse.lookup x)(tk:ai)
  (k:∀μ' v,cF c vs as μ μ'->TM c as μ μ' (.own<|.ah ((bc.map (·.1)).filterMap λs=>if s.cps[0]?=ab 35 then aw else ab (.str s))) v->μ'.rs=μ₁.rs->Q v (c.st μ')):
  Sr (bH c.prog c.w) c.A (.compStart (.ListComp (.Name nm CR) [⟨.Name nm px,it,[.Compare (.Subscript (.Name nm c₁) (.Constant (.int 0) k₁ c₂) uJ) [.NotEq] [.Constant (.str ⟨#[35]⟩) k₂ uI] pc],0⟩] scope pos) 0 (.ref μ₁.h.objs.size) (.ref D)<|Ap scope L c.env)
   (λr s'=>∃m,s'.heap.Ns L m/\∀h',jD L s'.heap h'->match r with
    | .ok _=>Q (.ref D) {s' with heap:=h'}| .error x=>aT (bH c.prog c.w) c.A (passOn "comprehension.variables-let-go" x<|Ap scope L c.env) Q No {s' with heap:=h'})
   {c.st μ₁ with heap:=ez,toks:=tk}:=by
 have hx:scope.names.lookup nm=ab .local:=ci.MM nm (.head _)
 have Rc:=hI.at λo eo=>Z.up _ o eo
 have ne:∀{b:aP}{o:pj},H.get? b=ab o->D≠b/\L≠b:=λe=>⟨λq=>gK (q▸e) Z.sD,λq=>gK (q▸e) Z.sL⟩
 have nI:=hI.elim λo q=>ne q.1
 have nd:=hm.elim λo q=>q.elim λ_ q=>ne (up _ _ q.1)
 have d6:=hm.lt_size
 have Ni:∀{b:aP},b≠μ₁.h.objs.size->b≠d->b∉[μ₁.h.objs.size,d]:=λh1 h2 q=>(dX.mp q).elim h1 λq=>h2 (cU.mp q)
 have nZ:=codeAny_compLoop_walk (elt:=.Name nm CR) (x:=nm) (px:=px) (iter:=it) (scope:=scope) (pos:=pos) (s:={c.st μ₁ with heap:=ez,toks:=tk}) (ifs:=[.Compare (.Subscript (.Name nm c₁) (.Constant (.int 0) k₁ c₂) uJ) [.NotEq] [.Constant (.str ⟨#[35]⟩) k₂ uI] pc]) (cenv:=Ap scope L c.env)
  (R:=λr s'=>∃m,s'.heap.Ns L m/\∀h',jD L s'.heap h'->match r with
    | .ok _=>Q (.ref D) {s' with heap:=h'}| .error x=>aT (bH c.prog c.w) c.A (passOn "comprehension.variables-let-go" x<|Ap scope L c.env) Q No {s' with heap:=h'})
  (Walks.dictKeys F.gJ.hd μ₁.h.objs.size d (Aw d6) kv ep) xc (λv y=>y=v) hx (by show(scope.kind==.class||(scope.kind==.module&&_))=ag;rw[ci.kind];rfl) Z.ne (Ni nI.1 nd.1) (Ni nI.2 nd.2)
  ⟨Rc,(hm.keep up).at' λo eo=>Z.up _ o eo⟩ ⟨_,Z.ah⟩ zv
  (λi v i5 aat hP hn hm _ _=>hP.elim λk hP=>hP.elim λ_ hP=>(hk.PB hP.1).elim λq w=>(aio hP.2).elim λt e=>by
   subst e
   have z:=oY q (xM w.1)
   have e:k=q.1:=w.2.1
   subst e
   exact fq (ahy<|acG (env:=Ap scope L c.env) F.gJ ci.kind hx hd hn hm z.1 z.2.2 z.2.1) (λ_ _ h=>h) λ_ _ z=>z.elim)
  (λi v i5 aat _ _ hn hm _ _=>R2 (RZ (env:=Ap scope L c.env) ci.kind hx hn hm ⟨rfl,i5.heap,i5.toks,rfl,λ_ _ e=>e⟩) hd)
  (λh' tk mm ys us zv hl hpl hul hP hF acv=>⟨mm,zv,λfv sb=>by
   have KH:Le μ₁.h fv:=λb o e=>have e:=up b o e;(sb.2 b<|Ne.symm (ne e).2).trans (acv b o (Ne.symm (ne e).2) (λq=>dk (cU.mp q)<|Aw (sI ‹μ₁.h.get? b=ab o›)) (Ne.symm (ne e).1)<|Z.up b o e)
   have hus:a7 (λv (p:aq×aB)=>∃t,v=.str p.1 t) us kv:=ahm hul λj v hv=>(hP j v hv).elim λk q=>q.elim λ_ q=>⟨_,q.1,aio q.2⟩
   exact k ⟨μ₁.g,fv,μ₁.rs,tk⟩ _ (T.trans<|T.aQ.fm tk KH) (TM.jJ (μ₁:=μ₁) (μ₂:=⟨μ₁.g,fv,μ₁.rs,tk⟩) (B0 (items:=ys) T.aQ.le KH (up.none Z.sD) Z.zK ((hpl.extBut sb.extBut Z.ne).choose_spec) (by rw[Y2 hF];exact adl hus hk λq hq=>(oY q hq).2.1)) T) rfl⟩)
  (hk.length▸o3 hlen)
 exact ah9 nZ (fq (E:=No) (wpAny_pyIter_keyiter Rc nZ) (λ_ _ h=>h) λ_ _ z=>z.elim)
theorem abi{nm:aq}{c₁ c₂ uJ CR uI px pc:eJ}{k₁ k₂:ai}{it:aX}{scope:gR}(F:b6 c)(hd:(nm==("__debug__":aq))=ag)(ci:oq c.sc scope [nm])(hf:∀y∈scope.names,y.2≠.free)(zt:Aa it)(He:Sx c it x):
  Sx c (.ListComp (.Name nm CR) [⟨.Name nm px,it,[.Compare (.Subscript (.Name nm c₁) (.Constant (.int 0) k₁ c₂) uJ) [.NotEq] [.Constant (.str ⟨#[35]⟩) k₂ uI] pc],0⟩] scope pos) (.tY x):=λvs as μ os K Q n h k=>
 wpAny_ListComp hf ci.kind ci.names (He n h λμ₁ m v os T t h=>dB.on h λm' os e hK=>(abk e).elim λj q=>q.elim λq w=>(K8 w.2.1).elim λtn u=>u.elim λsd hq=>(show MR μ₁.g as (.vars j) v from(w.1▸t:TM c as μ μ₁ (.vars j) v)).elim λad ha=>by
  have hr:=qD hq nofun
  have R:=T.aQ.rel.root j _ ad hr ha.1
  rw[ha.2]
  refine R.2.1.elim λkv D=>D.1.dictAt.elim λep Pn=>?_
  exact wpAny_pyIter_dict (beq_eq_false_iff_ne.mpr (T.aQ.rel.ck ad.2.1<|lQ hr ha.1 (.tail _ (.head _))).2) Pn<|Aj (ahG ci.BX (λy hy=>nomatch hy) (λez zv sb=>
   abh F hd ci T Pn D.2 w.2.2.1.1 w.2.2.1.2 ⟨_,lz _ rfl,rfl,rfl⟩ (gI _ _) (Oj (T.aQ.bU.le<|gI _ _) sb) zv _ λμ' v T' t' er=>k μ' _ v os T' (w.2.2.2▸t')<|er▸hK) ci.kind)) (zt c.env)
end
theorem N3(d:V)(sc:Sc)(e:aX):cI (.lit d) sc e=match wV e with|true=>.BinOp (.Constant (.int 10) (kd<|k0 e) (k0 e).pos) .Pow (.Constant (.int 120) (kd<|k1 e) (k1 e).pos) e.pos|false=>.Constant (zN d) (kd e) e.pos:=rfl
noncomputable def agP(o i v:aB):eD xH:=do qW [v,o,i] (IQ o i v);release [v,o,i] [];pure .next
structure aht(x:X)(e:aX):Prop where
 VF:Bo e=ag
 set:Aa e
 aaD:∀op,SA op e=ag
 aug:∀o i v,augStore e o i v=agP o i v
 KY:BV x=ae->∀t line env,Dt e t line env=pure ag
 sub:∀o i p line env,Dt e (ab<|.Subscript o i p) line env=pure ag
 V4:FV x=ae->∀ts k p line env,Dt e (ab<|.Tuple ts k p) line env=pure ag/\ahV [.Tuple ts k p] e env=pure aw
 obj:FP x=ae->∀name env,aia e name env (eR e env)=eR e env
theorem oV(x:X)(sc:Sc)(e:aX):aht x (cI x sc e):=by
 cases x with
 |lit d=>rw[N3];cases wV e<;>exact⟨rfl,λ_ _=>rfl,λ_=>rfl,λ_ _ _=>rfl,λ_ _ _ _=>rfl,λ_ _ _ _ _=>rfl,λ_ _ _ _ _ _=>⟨rfl,rfl⟩,λ_ _ _=>rfl⟩|bi b x=>cases b<;>exact⟨rfl,λ_ _=>rfl,λ_=>rfl,λ_ _ _=>rfl,λ_ _ _ _=>rfl,λ_ _ _ _ _=>rfl,λ_ _ _ _ _ _=>⟨rfl,rfl⟩,λh=>dk h ed⟩|_=>exact⟨rfl,λ_ _=>rfl,λ_=>rfl,λ_ _ _=>rfl,(by first|exactλ_ _ _ _=>rfl|exactλh=>dk h ed),λ_ _ _ _ _=>rfl,(by first|exactλ_ _ _ _ _ _=>⟨rfl,rfl⟩|exactλh=>dk h ed),(by first|exactλ_ _ _=>rfl|exactλh=>dk h ed)⟩
theorem vT(x:X)(sc:Sc)(e:aX):Bo (cI x sc e)=ag:=(oV x sc e).VF
theorem OG(k:IK)(it:aX)(x:X)(sc:Sc):Aa (k9 k it<|cI x sc):=by
 cases k with
 |plain=>exact(oV x sc it).set|_=>exactλ_ _=>rfl
abbrev Ex(c:Cx)(e:aX)(x:X):Prop:=Sx c e x/\Bx c e x
theorem val{c:Cx}{e:aX}{x:X}(H:Sx c e x)(he:isTrue e c.env (eR e c.env)=(do let v <-eR e c.env;IP e.pos;qW [v] (uT v)):=by rfl):Ex c e x:=⟨H,U3 H he⟩
theorem a7.inv{α β:Type}{R:α->β->Prop}{x:α}{y:β}{xs:af α}{ys:af β}(h:a7 R (x::xs) (y::ys)):R x y/\a7 R xs ys:=by
 cases h with
 |cons a b=>exact⟨a,b⟩
theorem tu{c:Cx}{sc:Sc}{xs:af X}:∀{es:af aX},a7 (Ex c) (mI xs sc es) xs->a7 (Sy c) (mI xs sc es) xs:=by
 induction xs with
 |nil=>exactλ_=>.nil|cons x xs ih=>exactλ{es} h=>have q:=a7.inv (show a7 (Ex c) (cI x sc (hd es)::mI xs sc es.tail) (x::xs) from h);.cons ⟨q.1.1,vT x sc _⟩ (ih q.2)
theorem b6.sub{c:Cx}{env:ff}{sc:Sc}(F:b6 c)(ok:lY env sc)(so:o9 sc):b6 (c.sub env sc):=⟨ok,so,F.gJ,F.hC⟩
theorem N4{x:X}{d:V}(h:Gp x=ab d):x=.lit d:=by
 cases x with
 |lit d'=>exact ay _ (cq h)|_=>exact cO h
theorem Z4{o:aD V}(h:OL o=ae):o=ab .none:=by
 cases o with
 |none=>cases h|some d=>cases d with
  |none=>rfl|_=>cases h
theorem US{o:aD V}(h:OJ o=ae):o=ab (.bool ae):=by
 cases o with
 |none=>cases h|some d=>cases d with
  |bool b=>exact ay (λb=>ab<|mU b) (show b=ae from h)|_=>cases h
theorem UR{x:X}(h:ug x=ae):x=.lit (.bool ae):=N4 (US h)
theorem Nc{x:X}(h:r9 x=ae):x=.lit .none:=N4 (Z4 h)
theorem MK{c:Cx}{y:X}{o:aX}(H:Sx c (cI y c.sc o) y):Go c (IW (match r9 y with|true=>aw|false=>ab<|cI y c.sc o) c.env) (wX c.C c.cb y) (TM c):=by
 cases q:r9 y with
 |true=>exact Nc q▸Z3|false=>exact H
theorem U2{c:Cx}{x:X}(h:ug x=ae):xu c [] x:=UR h▸λ_ _ _ _ _ _ n h k=>dB.on h λb os e h=>wpAny_tests_nil (k _ b ae os n.ft (cq e).symm h)
theorem U1{c:Cx}{e:aX}{x:X}(H:Bx c e x):xu c [e] x:=λ_ _ _ _ _ _ n h k=>ahy (H n h λμ' m b os T _ h=>k _ b b os T rfl h)
def PE(x:X):Prop:=∀(c:Cx)(e:aX),b6 c->d4 c.c0 x c.sc e=ae->Ex c (cI x c.sc e) x
def RO(xs:af X):Prop:=∀(c:Cx)(es:af aX),b6 c->oP c.c0 xs c.sc es=ae->a7 (Ex c) (mI xs c.sc es) xs
theorem abZ{d:V}(h:GS d=ae):d=.int 1000000000000000000000000000000000000000000000000000000000000000000000000000000000000000000000000000000000000000000000000:=by
 cases d with
 |int i=>exact ay iq (uQ h)|_=>cases h
theorem aaY(d:V):PE (.lit d):=λc e F h=>by
 rw[N3]
 have h:(match wV e with|true=>GS d|false=>ui d)=ae:=h
 cases q:wV e with
 |true=>rw[q] at h;exact abZ h▸val YL|false=>rw[q] at h;exact val (aeO h)
theorem afk(s:az)(xs:af X)(ih:RO xs):PE (.cw s xs):=λc e F h=>by
 have H:=ih c _ F h
 refine⟨λ_ _ _ _ _ _ n h k=>?_,λvs as μ os K Q n h k=>?_⟩
 ·cases s<;>exact(ay (λt=>aT _ _ t _ _ _)<|arm_eval_BoolOp ..).mpr (afl (H.aU λ_ _ q=>q.1) n h k)
 ·cases s<;>exact wpAny_isTrue_BoolOp (ahj (K:=λp rs os=>K p.1 p.2 rs os) (H.aU λ_ _ q=>q.2) n h λμ' p b os T e h=>k _ p.1 b os T e.2<|e.1▸h)
theorem afB(b:Bi)(x:X)(ih:PE x):PE (.bi b x):=λc e F h=>by
 have h:=bC h
 have g:=bC h.2
 have H:Sy c (cI x c.sc<|hd (cL e)) x:=⟨(ih c _ F h.1).1,vT _ _ _⟩
 show Ex c (match wW b with|true=>_|false=>_) (.bi b x)
 cases q:wW b with
 |true=>rw[q] at g;exact val (abT F g.1 g.2 q H)|false=>exact val (afC F g.1 q H)
theorem ag9{m:Me}{n:ai}(h:Rq m n=ae):n<10:=by
 cases m<;>exact lB (bA<|eV h) aa
theorem Qz{P:af aq->Prop}{c:Cx}{e:aX}{el x co:X}{ni:ai}{tg:Tg}{k:IK}(F:b6 c)(h:d4 c.c0 (.comp el ni tg k x co) c.sc e=ae)(zy:PE el)(hx:PE x)(w9:PE co)
  (go:Dj c (tp e) (rK e) tg el co k x (cI el (mA c.sc e)<|k0 e) (g8 e).iter (cI x c.sc) (match ug co with|true=>[]|false=>[cI co (mA c.sc e)<|hd (g8 e).ifs])->ni=(rK e).length->P (rK e)):P (rK e):=
 have h1:=bC h
 have h2:=bC h1.2
 have h3:=bC h2.2
 have h4:=bC h3.2
 have h5:=bC h4.2
 have h6:=bC h5.2
 have ci:=QC h6.1
 have hn:=eV h6.2
 have so:=Qw F.so ci
 go ⟨ci,h5.1,hn.1,h4.1,OG k _ x c.sc,⟨(hx c _ F h2.1).1,vT _ _ _⟩,λenv ok=>(zy (c.sub env<|mA c.sc e) (k0 e) (F.sub ok so) h1.1).1,λenv ok=>show xu (c.sub env<|mA c.sc e) (match ug co with|true=>[]|false=>[cI co (mA c.sc e)<|hd (g8 e).ifs]) co by
  cases q:ug co with
  |true=>exact U2 q|false=>exact U1 (w9 (c.sub env<|mA c.sc e) _ (F.sub ok so)<|(q5.mp h3.1).resolve_left λz=>q6 (q.symm.trans z)).2⟩ hn.2
theorem jw:∀x,PE x:=X.rec (motive_1:=PE) (motive_2:=RO)
 (λi c e F h=>val<|aak F h)
 aaY
 (λo x y hx hy c e F h=>val<|afA (hx c _ F (bC h).1).1 (hy c _ F (bC h).2).1)
 (λx hx c e F h=>val<|aaa (hx c _ F h).1)
 (λx hx c e F h=>have H:=hx c _ F h;⟨ZY H.1,U4 H.2⟩)
 afk
 (λx y z hx hy hz c e F h=>have Hx:=hx c _ F (bC h).1;have Hy:=hy c _ F (bC (bC h).2).1;have Hz:=hz c _ F (bC (bC h).2).2;⟨abS Hx.2 Hy.1 Hz.1,U6 Hx.2 Hy.2 Hz.2⟩)
 (λo x y hx hy c e F h=>have Hx:=(hx c _ F (bC h).1).1;have Hy:=(hy c _ F (bC h).2).1;have m:=(oV y c.sc<|k1 e).aaD _;⟨aeZ F Hx Hy m,U7 F Hx Hy m⟩)
 (λxs hs c e F h=>val<|UO (tu<|hs c _ F (bC h).1) (eV (bC h).2))
 (λxs hs c e F h=>val<|aaG (tu<|hs c _ F (bC h).1) (eV (bC h).2))
 (λks xs hs c e F h=>have q:=eV (bC (bC h).2).1;val (aeB (tu<|hs c _ F (bC h).1) q.1 q.2.1 q.2.2 (bC (bC h).2).2))
 (λks xs hs c e F h=>have q:=eV (bC (bC h).2).1;val (aeF (tu<|hs c _ F (bC h).1) q.1 q.2.1 q.2.2 (bC (bC h).2).2))
 (λbc c e F h=>val<|aeE (eV (bC h).1) (bC (bC h).2).1 (bC (bC h).2).2)
 (λxs hs c e F h=>val<|Vm (tu<|hs c _ F (bC h).1) (eV (bC h).2))
 (λx y hx hy c e F h=>val<|ab7 (hx c _ F (bC h).1).1 (hy c _ F (bC h).2).1)
 (λx y z hx hy hz c e F h=>val<|V7 (hx c _ F (bC h).1).1 (MK (hy c _ F (bC (bC h).2).1).1) (MK (hz c _ F (bC (bC h).2).2).1))
 (λx y hx hy c e F h=>val<|Wb (hx c _ F (bC h).1).1 (hy c _ F (bC h).2).1)
 (λf xs hs c e F h=>val<|ac6 F (bC (bC h).2).1 (eV (bC (bC h).2).2) (tu<|hs c _ F (bC h).1))
 afB
 (λm x xs hx hs c e F h=>have g:=bC (bC (bC h).2).2;val (aaw (mm:=m) (λname=>(oV x c.sc _).obj g.2 name _) (hx c _ F (bC h).1).1 (tu<|hs c _ F (bC (bC h).2).1)<|ag9 g.1))
 (λel ni tg k x co zy hx w9 c e F h=>Qz (P:=λ_=>Ex c (cI (.comp el ni tg k x co) c.sc e)<|.comp el ni tg k x co) F h zy hx w9 λC q=>q▸val (Qy (te:=(g8 e).target) (pos:=e.pos) F C))
 (λx hx c e F h=>have h1:=bC h;have h2:=bC h1.2;have h3:=bC h2.2;have h4:=bC h3.2;val (abi F ((pF _).mp h3.1) (QC h4.1) (λy hy=>eV<|sP.mp h4.2 y hy) (oV x c.sc _).set (hx c (g8 e).iter F h1.1).1))
 (λ_ _ _ _=>.nil)
 λx xs hx hs c es F h=>.cons (hx c _ F (bC h).1) (hs c _ F (bC h).2)
section
variable{c:Cx}{x y z:X}{e e' jv:aX}{pos:eJ}{vs eB iH kF:Vs}{as cK jy jU:af Ad}{μ μ' μ₁ μ₂:Mo}
structure ik(c:Cx)(μ:Mo)(as:af Ad)(μ':Mo)(eB:Vs)(cK:af Ad):Prop where
 aQ:cG c eB cK μ'
 st:Step μ.g μ.h (bp μ.rs as++gF c.env) μ'.g μ'.h
 sub:∀b∈bp μ'.rs cK,b∈bp μ.rs as\/μ.h.get? b=aw
 ext:as<+:cK
 jd:∀(i:ai)(a:Ad),as.length<=i->cK[i]?=ab a->∀b∈[a.1,a.2.1,a.2.2],μ.h.get? b=aw
def Ae(c:Cx)(as:af Ad)(μ μ':Mo):Fl->xH->Prop
 | .nx,f=>f=.next| .bk,f=>f=.brk| .ct,f=>f=.cont| .rt m,f=>∃v,f=.ret v/\TM c as μ μ' m v
def Ss(c:Cx)(t:eD xH)(f:Rs->Vs->Os->(Fl->Rs->Vs->Os->Prop)->Prop):Prop:=∀⦃vs:Vs⦄⦃as:af Ad⦄⦃μ:Mo⦄⦃os:Os⦄⦃K:Fl->Rs->Vs->Os->Prop⦄⦃Q:xH->aZ->Prop⦄,cG c vs as μ->f μ.rs vs os K->
 (∀μ' eB cK fl f os,ik c μ as μ' eB cK->Ae c cK μ μ' fl f->K fl μ'.rs eB os->Q f (c.st μ'))->W c t Q μ
theorem HN{h:aI}:∀(i:ai)(a:Ad),as.length<=i->as[i]?=ab a->∀b∈[a.1,a.2.1,a.2.2],h.get? b=aw:=λi a hi e=>cO ((Th hi).symm.trans e)
theorem cF.ma(T:cF c vs as μ μ'):ik c μ as μ' vs as:=⟨T.aQ,T.st.aU λb hb=>.inl (pB _ hb),λb hb=>.inl (T.sub b hb),S4 _,HN⟩
theorem ik.trans(a:ik c μ as μ₁ iH jy)(b:ik c μ₁ jy μ₂ kF jU):ik c μ as μ₂ kF jU where
 aQ:=b.aQ
 st:=a.st.trans b.st λx hx=>(iX.mp hx).elim (λq=>(a.sub x q).imp (pB _) id) λq=>.inl (u6 _ q)
 sub:=λx hx=>(b.sub x hx).elim (a.sub x) λq=>.inr (a.st.f7 x q)
 ext:=a.ext.trans b.ext
 jd:=λi x hi e d hd=>by
  by_cases q:jy.length<=i
  ·exact a.st.f7 d (b.jd i x q e d hd)
  ·obtain⟨bs,hbs⟩:=b.ext
   rw[<-hbs,u9<|S0 q] at e
   exact a.jd i x hi e d hd
theorem Ae.jJ{fl:Fl}{f:xH}(x:Ae c cK μ₁ μ' fl f)(hd:∀b,μ₁.h.get? b=aw->μ.h.get? b=aw):Ae c cK μ μ' fl f:=by
 cases fl with
 |rt m=>exact x.imp λv q=>⟨q.1,TR.old q.2 hd λ_ e=>e⟩
 |_=>exact x
theorem zD:∀{rs qs:Rs}{as bs:af Ad},rs.length=as.length->bp (rs++qs) (as++bs)=bp rs as++bp qs bs
 |[],qs,[],bs,_=>rfl|r::rs,qs,a::as,bs,h=>(ay (foot a r++·)<|zD (rs:=rs) (as:=as) (DL h)).trans (oz ..).symm
theorem Bq{α:Type}{l:af α}{a b:α}{i:ai}(e:(l++[a])[i]?=ab b):l[i]?=ab b\/(i=l.length/\a=b):=by
 rcases u5 i l.length with h|h
 ·rw[u9 h] at e;exact .inl e
 ·rw[Jr h] at e
  cases q:i-l.length with
  |zero=>rw[q] at e;exact .inr ⟨Jm (Nat.le_of_sub_eq_zero q) h,cq e⟩|succ k=>rw[q] at e;cases e
theorem ca.vU{prog:cC}{w:dv}{g h:aI}{rs:Rs}{r:bP}{a:Ad}(x:ca prog w g h rs as)(hr:ip prog w g h a r)(hn:(foot a r).Nodup)(ha:∀b∈foot a r,b∉bp rs as)(ho:∀b∈foot a r,g.get? b=aw/\b≠jl):
  ca prog w g h (rs++[r]) (as++[a]) where
 le:=x.le
 len:=by rw[eX,eX,x.len];rfl
 root:=λi q d e1 e2=>by
  rcases Bq e1 with e1|⟨q1,rfl⟩
  ·rcases Bq e2 with e2|⟨q2,rfl⟩
   ·exact x.root i q d e1 e2
   ·exact dk (l8.mp e1).1 (by rw[q2,x.len];exact Ax _)
  ·rcases Bq e2 with e2|⟨e2,rfl⟩
   ·exact dk (l8.mp e2).1 (by rw[q1,x.len];exact Ax _)
   ·exact hr
 nodup:=by
  rw[zD x.len.symm,show bp [r] [a]=foot a r from fy _,ow]
  exact⟨x.nodup,hn,λb hb d hd q=>ha b (q▸hd) hb⟩
 ck:=λb hb=>by
  rw[zD x.len.symm,show bp [r] [a]=foot a r from fy _,iX] at hb
  exact hb.elim (x.ck b) (ho b)
theorem gH.more{g h:aI}{env:ff}{sc:Sc}{bs:af Ad}{F F':af aP}(x:gH g h env sc vs as F)(hF:∀b∈gF env,b∉F'):gH g h env sc vs (as++bs) F':=
 ⟨x.ns,x.mK,λb hb=>⟨(x.ck b hb).1,hF b hb⟩,x.apart,x.has,λi y k m h1 h2 h3=>(x.lG i y k m h1 h2 h3).imp λv q=>⟨q.1,q.2.more⟩⟩
theorem Zq{prog:cC}{w:dv}{g h h₀ h₁:aI}{r:bP}{v:aB}(hr:r≠.cA)(x:xw prog w g h h₀ h₁ r v):∃a:Ad,v=.ref a.1/\ip prog w g h a r/\(foot a r).Nodup/\(∀b∈foot a r,g.get? b=aw/\h₀.get? b=aw/\(h₁.get? b).isSome=ae/\b≠jl)/\∀b∈[a.1,a.2.1,a.2.2],b∈foot a r:=by
 obtain⟨a,rfl,h1,h2,h3⟩:=x
 have bh:∀b∈[a.1,a.1,a.1],b∈[a.1]:=λb hb=>cU.mpr (by simpa using hb)
 cases r with
 |cA=>exact dk rfl hr|ah xs=>exact⟨(a.1,a.1,a.1),rfl,h1,h2,h3,bh⟩|fb xs=>exact⟨(a.1,a.1,a.1),rfl,h1,h2,h3,bh⟩|jg xs=>exact⟨(a.1,a.1,a.1),rfl,h1,h2,h3,bh⟩|st _ _ _ _=>exact⟨a,rfl,h1,h2,h3,λ_ hb=>hb⟩
structure RV(c:Cx)(vs:Vs)(as:af Ad)(μ:Mo)(h₀ h₁:aI)(m:MV)(v:aB)(m':MV)(cj:Rs)(cK:af Ad):Prop where
 eq:∀(i:ai)(vs:Vs),hV i m μ.rs vs=(cj,vs.set i<|ab m')
 mr:MR μ.g cK m' v
 aQ:cG c vs cK ⟨μ.g,μ.h,cj,μ.tk⟩
 ext:as<+:cK
 sub:∀b∈bp cj cK,b∈bp μ.rs as\/(h₀.get? b=aw/\(h₁.get? b).isSome=ae/\∀xs,m=.own (.ah xs)->v=.ref b)
 jd:∀(i:ai)(a:Ad),as.length<=i->cK[i]?=ab a->∀b∈[a.1,a.2.1,a.2.2],h₀.get? b=aw
theorem TM.Ly{m:MV}{v:aB}(t:TM c as μ₁ μ₂ m v)(hd:∀b,μ₁.h.get? b=aw->μ.h.get? b=aw):TM c as μ μ₂ m v:=TR.old t hd λ_ e=>e
theorem Iv{m:MV}{v:aB}{h₀ h₁:aI}(n:cG c vs as μ)(Cw:∀b∈gF c.env,(h₀.get? b).isSome=ae)(hF:∀b∈bp μ.rs as,(h₀.get? b).isSome=ae)(t:TR c.prog c.w μ.g μ.h h₀ h₁ as m v):∃m' cj cK,RV c vs as μ h₀ h₁ m v m' cj cK:=by
 have plain:∀m',(∀(i:ai)(vs:Vs),hV i m μ.rs vs=(μ.rs,vs.set i<|ab m'))->MR μ.g as m' v->∃m' cj cK,RV c vs as μ h₀ h₁ m v m' cj cK:=λm' e r=>⟨m',μ.rs,as,e,r,n,S4 _,λb hb=>.inl hb,HN⟩
 cases m with
 |val d=>exact plain _ (λ_ _=>rfl) t|ref j=>exact plain (.ref j) (λ_ _=>rfl) t|vars j=>exact plain (.vars j) (λ_ _=>rfl) t|bM j=>exact plain (.bM j) (λ_ _=>rfl) t|own r=>
  obtain⟨a,rfl,hr,hn,ho,oY⟩:=Zq t.1 t.2
  have Hn:∀b∈foot a r,b∉bp μ.rs as:=λb hb q=>iO (ho b hb).2.1 (hF b q)
  have Pf:bp (μ.rs++[r]) (as++[a])=bp μ.rs as++foot a r:=(zD n.rel.len.symm).trans (ay (_++·)<|fy _)
  refine⟨.ref μ.rs.length,μ.rs++[r],as++[a],λ_ _=>rfl,⟨a,by rw[<-n.rel.len];exact Tj,rfl⟩,⟨n.gl,n.rel.vU hr hn Hn λb hb=>⟨(ho b hb).1,(ho b hb).2.2.2⟩,n.jc.more λb hb q=>?_,n.len⟩,List.prefix_append _ _,λb hb=>?_,λi x hi e b hb=>?_⟩
  ·rw[Pf,iX] at q
   exact q.elim (n.jc.ck b hb).2 λq=>iO (ho b q).2.1 (Cw b hb)
  ·rw[Pf,iX] at hb
   refine hb.imp id λq=>⟨(ho b q).2.1,(ho b q).2.2.1,λxs hx=>?_⟩
   cases hx
   exact ay _ (cU.mp q).symm
  ·rcases Bq e with e|⟨_,rfl⟩
   ·exact dk (l8.mp e).1 (nK.mpr hi)
   ·exact(ho b<|oY b hb).2.1
theorem cG.zI(n:cG c vs as μ):∀b∈gF c.env,(μ.h.get? b).isSome=ae:=λ_ hb=>n.jc.alloc hb
theorem ik.names{h':aI}(n:cG c vs as μ)(T:cF c vs as μ μ₁){cj:Rs}(tk:ai)(FQ:cG c vs cK ⟨μ₁.g,μ₁.h,cj,μ₁.tk⟩)(st:Step μ₁.g μ₁.h (gF c.env) μ₁.g h')(fr:gH μ₁.g h' c.env c.sc eB cK (bp cj cK))(hl:eB.length=vs.length)
  (ext:as<+:cK)(sub:∀b∈bp cj cK,b∈bp μ₁.rs as\/μ.h.get? b=aw)(jd:∀(i:ai)(a:Ad),as.length<=i->cK[i]?=ab a->∀b∈[a.1,a.2.1,a.2.2],μ.h.get? b=aw):ik c μ as ⟨μ₁.g,h',cj,tk⟩ eB cK:=
 ⟨⟨FQ.gl,FQ.rel.step st λb hb q=>(FQ.jc.ck b q).2 hb,fr,hl.trans n.len⟩,(T.st.aU λb hb=>.inl<|pB _ hb).trans st λb hb=>.inl (u6 _ hb),λb hb=>(sub b hb).imp (T.sub b) id,ext,jd⟩
theorem QX{i:ai}{m:MV}{v:aB}{Q:Unit->aZ->Prop}(F:b6 c)(hi:iK c.sc i=ae)(n:cG c vs as μ)(T:cF c vs as μ μ₁)(t:TM c as μ μ₁ m v)
  (k:∀μ' cK,ik c μ as μ' (hV i m μ₁.rs vs).2 cK->μ'.rs=(hV i m μ₁.rs vs).1->Step μ₁.g μ₁.h (gF c.env) μ'.g μ'.h->(∀b∈bp μ'.rs cK,b∈bp μ₁.rs as\/∀xs,m=.own (.ah xs)->v=.ref b)->Q () (c.st μ')):W c (IM c.env (nm c.sc i) v) Q μ₁:=by
 obtain⟨kd,S⟩:=yv hi
 obtain⟨m',cj,cK,A⟩:=Iv T.aQ n.zI (n.alloc T) t
 rw[A.eq] at k
 exact Bn F.ok F.so A.aQ.le A.aQ.jc S A.mr (Wr.all c.env c.sc _) λh' tk st fr=>k ⟨μ₁.g,h',cj,tk⟩ cK (ik.names n T tk A.aQ st fr pC A.ext (λb hb=>(A.sub b hb).imp id And.left) A.jd) rfl st λb hb=>(A.sub b hb).imp id λq=>q.2.2
theorem aa0{prog:cC}{w:dv}{A:fJ}{s:aZ}{Q:aB->aZ->Prop}(h:Q .none s):aT (bH prog w) A (runValue<|.builtin "proto.let_go" {}) Q No s:=
 wpAny_runValue (codeAny_builtin entry_let_go (by rw[Around.under_plainId plain_let_go];exact b7 h))
theorem adw{sc:Sc}(F:b6 c)(H:Sx c (cI x sc e) x)(hx:BV x=ae):Ss c (iU (.Expr (cI x sc e) pos) c.env) (wS c.C c.cb<|.expr x):=λvs as μ os K Q n h k=>by
 have hi:ah2 c.env=ag:=by unfold ah2;rw[F.ok.kind];rfl
 rw[exec_Expr c.env _ pos hi<|(oV x sc e).KY hx _ _ _]
 refine aY (jW<|aY (H n h λμ₁ m v os T t h=>b4.on h λd e h=>?_))
 have a6:Q .next (c.st μ₁):=k μ₁ vs as .nx _ _ T.ma rfl h
 unfold dropValue
 split
 ·exact b7 a6
 ·exact aY (jW<|aY (aa0<|b7 a6))
 ·exact b7 a6
theorem qN{i:ai}{p:eJ}(F:b6 c)(hi:iK c.sc i=ae)(H:Sx c e x)(hs:Dt e (ab<|.Name (nm c.sc i) p) pos.line c.env=pure ag):Ss c (iU (.Assign [.Name (nm c.sc i) p] e pos) c.env) (wS c.C c.cb<|.aN i x):=λvs as μ os K Q n h k=>
 wpAny_Assign_Name (H n h λμ₁ m v os T t h=>QX F hi n T t λμ' cK T' e _ _=>k μ' _ cK .nx _ _ T' rfl (e▸h)) hs
theorem agZ{is:af ai}{te:aX}{sc:Sc}(F:b6 c)(hi:pM c.sc (.aC is)=ae)(H:Sx c (cI x sc e) x)(hx:FV x=ae):Ss c (iU (.Assign [gG c.sc (.aC is) te] (cI x sc e) pos) c.env) (wS c.C c.cb<|.nG is x):=λvs as μ os K Q n h k=>by
 have hs:=(oV x sc e).V4 hx (names (is.map<|nm c.sc)<|cL te) (kd te) te.pos pos.line c.env
 rw[aic]
 refine aY (jW<|aY (sF (show ahU [gG c.sc (.aC is) te] _ _ _=_ from hs.1) ?_))
 rw[br ed]
 refine aY (H n h λμ₁ m v os T t h=>b4.on h λp e1 h=>b4.on h λiH e2 h=>aY<|sF hs.2 ?_)
 obtain⟨g,bo,r,_⟩:=t.keep n T e1
 show aT _ _ (SD v [jY (gG c.sc (.aC is) te) c.env]>>=λ_=>pure xH.next) _ _ _
 refine aY (m:=SD v [jY (gG c.sc (.aC is) te) c.env]) ?_
 show aT _ _ (jY (gG c.sc (.aC is) te) c.env v) _ _ _
 exact Ii (s:=c.st ⟨g,μ₁.h,p.2,μ₁.tk⟩) F.gJ.hd F.ok F.so bo.aQ.le bo.aQ.jc hi r e2 (λid _=>Wr.all c.env c.sc id) λh' tk st fr=>
  b7 (k ⟨g,h',p.2,tk⟩ iH as .nx _ _ (ik.names n bo tk bo.aQ st fr (Ie e2) (S4 _) (λb hb=>.inl hb) HN) rfl h)
theorem LF{a:MV}{k d:V}{rs cj:Rs}{v:aB}(e:rC a k d rs=ab cj)(t:TM c as μ μ₁ a v):MR μ₁.g as a v:=by
 cases a with
 |own r=>cases e|_=>exact t
theorem ag0{sc:Sc}{p:eJ}(Ho:Sx c e' x)(Hi:Sx c jv y)(H:Sx c (cI z sc e) z):Ss c (iU (.Assign [.Subscript e' jv p] (cI z sc e) pos) c.env) (wS c.C c.cb<|.nH x y z):=λvs as μ os K Q n h k=>
 wpAny_Assign_Subscript (H n h λμ₁ m v os T t h=>Ho T.aQ h λμ₂ a va os bo ta h=>Hi bo.aQ h λjo b vb os dC tb h=>b4.on h λd e1 h=>b4.on h λkk e2 h=>dB.on h λcj os e3 h=>
  dC.aQ.post (MQ dC.aQ.rel (LF e3<|ta.on T.aQ bo dC) (tb.rd e2) (Rd.aU (bo.trans dC).st.gg<|t.rd e1) e3) λg h' tk _ ji _=>k ⟨g,h',cj,tk⟩ vs as .nx _ _ (T.trans<|bo.trans (dC.trans ji)).ma rfl h) ((oV z sc e).sub _ _ _ _ _)
theorem ab9{prog:cC}{w:dv}{A:fJ}{s:aZ}{g h h₀ h₁ g' h' cH ez:aI}{a b:MV}{d:V}{va vb:aB}{Q:aB->aZ->Prop}(t:TR prog w g h h₀ h₁ as a va)(t':TR prog w g' h' cH ez as b vb)(e:RJ a b=ab d)(k:∀z,(∀g,Rd g z d)->Q z {s with toks:=s.toks+1}):
  aT (bH prog w) A (inplaceOp .Add va vb) Q No s:=
 bind.on e λi q1 e=>map.on e λj q2 e=>(t.int q1).elim λsU w1=>(t'.int q2).elim λvL w2=>w1▸w2▸PySem.P.iadd_int (k _ λg=>e▸Rd.int _ _)
theorem agQ{sc:Sc}{p:eJ}(Ho:Sx c e' x)(Hi:Sx c (cI y sc jv) y)(H:Sx c e z):Ss c (iU (.AugAssign (.Subscript e' (cI y sc jv) p) .Add e pos) c.env) (wS c.C c.cb<|.xp x y z):=λvs as μ os K Q n h k=>by
 refine wpAny_AugAssign_SubscriptAny (Ho n h λμ₁ a va os T ta h=>Hi T.aQ h λμ₂ b vb os bo tb h=>b4.on h λkk e1 h=>dB.on h λold os e2 h=>(MT (A:=c.A) (s:=c.st μ₂) bo.aQ.rel (ta.on n T bo) (tb.rd e1) e2).elim λ_ q=>q.elim λ_ q=>
  bo.aQ.op q.2.2 λg h' tk v dC r=>H dC.aQ h λvg m nv os ji yn h=>b4.on h λd e3 h=>dB.on h λcj os e4 hK=>ab9 r yn e3 λz rz=>
   have o7:=bo.trans (dC.trans ji)
   have sy:=ji.aQ.jH (vg.tk+1)
   sy.aQ.post (MQ sy.aQ.rel (LF e4<|ta.on n T (o7.trans sy)) (Rd.aU (dC.trans ji).st.gg<|tb.rd e1) (rz _) e4) λg h' tk _ ahq _=>k ⟨g,h',cj,tk⟩ vs as .nx _ _ (T.trans<|o7.trans (sy.trans ahq)).ma rfl hK) (oV y sc jv).aug
theorem Xf(H:Sx c e x):Ss c (iU (.Return (ab e) pos) c.env) (wS c.C c.cb<|.ret x):=λvs as μ os K Q n h k=>wpAny_Return_some (H n h λμ₁ m v os T t h=>k μ₁ vs as (.rt m) _ _ T.ma ⟨v,rfl,t⟩ h)
theorem Xg(hx:r9 x=ae):Ss c (iU (.Return aw pos) c.env) (wS c.C c.cb<|.ret x):=Nc hx▸λvs as μ os K Q n h k=>wpAny_Return_none (k μ vs as (.rt<|.val .none) _ os n.ft.ma ⟨_,rfl,TM.val Rd.none⟩ h)
theorem aff:Ss c (iU (.Break pos) c.env) (wS c.C c.cb .brk):=λvs as μ os K Q n h k=>wpAny_Break (k μ vs as .bk _ os n.ft.ma rfl h)
theorem aeN:Ss c (iU (.Continue pos) c.env) (wS c.C c.cb .cont):=λvs as μ os K Q n h k=>wpAny_Continue (k μ vs as .ct _ os n.ft.ma rfl h)
end
section
variable{prog:cC}{w:dv}{A:fJ}{env:ff}
theorem w4{α:Type}{c:Prop}[Decidable c]{x y:α}{P:α->Prop}(hx:c->P x)(hy:¬c->P y):P (if c then x else y):=
 if h:c then(a9 h:(if c then x else y)=x).symm▸hx h else(br h:(if c then x else y)=y).symm▸hy h
theorem OT{α:Type}{c:Prop}[Decidable c]{a:α}:(if c then ab a else aw)=ab a\/(if c then ab a else aw)=aw:=w4 (P:=λo=>o=ab a\/o=aw) (λ_=>.inl rfl) λ_=>.inr rfl
theorem ac9{α β:Type}{f:α->aD β}{u v:α}{a b:β}(hu:f u=ab a\/f u=aw)(hv:f v=ab b\/f v=aw):[u,v].filterMap f=[a,b]\/([u,v].filterMap f).length≠2:=by
 rw[xP,xP,List.filterMap_nil]
 rcases hu with e|e<;>rcases hv with e'|e'<;>rw[e,e']
 ·exact .inl rfl
 ·exact .inr (show 1≠2 by decide)
 ·exact .inr (show 1≠2 by decide)
 ·exact .inr (show 0≠2 by decide)
noncomputable def uO(n:af aq)(t:eD (aD<|af aq)):Prop:=t=pure aw\/t=pure (ab n)
theorem Vg{α:Type}{f:α->aD aq}{u v:α}{a b:aq}{r:az}(h:¬(([u,v].filterMap f).length !=2||r)=ae)(hu:f u=ab a\/f u=aw)(hv:f v=ab b\/f v=aw):uO [a,b] (pure<|ab ([u,v].filterMap f)):=
 (ac9 hu hv).elim (λe=>.inr<|ay (λn=>pure<|ab n) e) λe=>dk (q5.mpr<|.inl (bne_iff_ne.mpr e)) h
theorem Vf{a b:aq}{pa pb p p':eJ}{k k':ai}{x y:aX}(hc:[x,y].all (IX 8)=ag):
  uO [a,b] (ahV [.Tuple [.Name a pa,.Name b pb] k p] (.Tuple [x,y] k' p') env):=
 w4 (P:=uO [a,b]) (λ_=>.inl rfl) λ_=>w4 (P:=uO [a,b]) (λ_=>.inl rfl) λ_=>w4 (P:=uO [a,b]) (λ_=>.inl rfl) λh=>w4 (P:=uO [a,b]) (λ_=>.inl rfl) λ_=>w4 (P:=uO [a,b]) (c:=[x,y].all (IX 8)=ae) (λq=>dk (hc.symm.trans q) ed) λ_=>
  Vg h OT OT
theorem UH{s:aZ}{T:aP}{eZ eG:aB}{Q:af aB->aZ->Prop}(hh:A.handled=aw)(hT:s.heap.IsTuple T #[eZ,eG])(hq:∀ez,Le s.heap ez->Q [eZ,eG] {s with heap:=ez}):aT (bH prog w) A (Ds (.ref T) 2 aw) Q No s:=by
 have h:=ahw (prog:=prog) (w:=w) (E:=No) (items:=#[eZ,eG]) (Q:=Q) hh hT λh' he=>hq h' λc o eo=>he c o (λq=>by rw[q,fN] at eo;cases eo) eo
 exact h
end
section
variable{c:Cx}{x y z:X}{e e' jv:aX}{pos:eJ}{vs eB iH kF:Vs}{as cK jy jU:af Ad}{μ μ' μ₁ μ₂:Mo}
theorem ag1{i:ai}{elt te it:aX}{arg:aX->aX}{ifs:af aX}{scope:gR}{own:af aq}{tg:Tg}{el co x:X}{eU:IK}{p Lh:eJ}(F:b6 c)(hi:iK c.sc i=ae)(C:Dj c scope own tg el co eU x elt it arg ifs):
  Ss c (iU (.Assign [.Name (nm c.sc i) p] (.ListComp elt [⟨gG (fS c.sc scope own) tg te,k9 eU it arg,ifs,0⟩] scope pos) Lh) c.env) (wS c.C c.cb<|.aN i (.comp el own.length tg eU x co)):=by
 obtain⟨b,hb⟩:∃b,Dt (.ListComp elt [⟨gG (fS c.sc scope own) tg te,k9 eU it arg,ifs,0⟩] scope pos) (ab<|.Name (nm c.sc i) p) Lh.line c.env=pure b:=⟨_,rfl⟩
 cases b with
 |false=>exact qN F hi (Qy F C) hb|true=>
  intro vs as μ os K Q n h k
  rw[exec_Assign_Name_used _ _ _ _ hb]
  refine aY (jW<|aY ?_)
  show aT _ c.A (do let _ <-ah8 (.ListComp elt [⟨gG (fS c.sc scope own) tg te,k9 eU it arg,ifs,0⟩] scope pos) scope c.env _ (Sj []) ag (eR (k9 eU it arg) c.env) (ab<|jY (.Name (nm c.sc i) p) c.env)) _ _ _
  refine aY (Qx (use:=ab<|jY (.Name (nm c.sc i) p) c.env) (K:=λys rs os=>K .nx (hV i (.own<|.ah ys) rs vs).1 (hV i (.own<|.ah ys) rs vs).2 os) F C n h λys μ₁ os D L E N h=>?_)
  have T:=E.ft
  have HY:L∉gF c.env:=λq=>iO N.sL (n.zI L q)
  refine II (QX F hi n T (TM.yR (r:=.ah ys) nofun rfl E.ah E.gD N.sD E.ah.some N.zK) λμ₂ cK bo er st sub=>?_)
  obtain⟨mm,o,es,ep,ho,r⟩:=E.ns
  refine⟨mm,⟨o,es,ep,st.frame _ _ ho HY,r⟩,λez sb=>b7<|b7 ?_⟩
  have gL:μ₂.g.get? L=aw:=st.ck E.gL (by rw[ho];rfl) HY
  have nf:L∉bp μ₂.rs cK:=λq=>(sub L q).elim (λq=>iO N.sL<|n.alloc T L q) λq=>N.ne (by have:=q ys rfl;injection this)
  have kp:∀b o,b∉[L]->μ₂.h.get? b=ab o->ez.get? b=ab o:=λb o hb e=>by rw[sb.2 b λq=>hb<|cU.mpr q];exact e
  have kf:∀b∈bp μ₂.rs cK,∀o,μ₂.h.get? b=ab o->ez.get? b=ab o:=λb hb o e=>kp b o (λq=>nf<|cU.mp q▸hb) e
  have ke:∀b∈gF c.env,∀o,μ₂.h.get? b=ab o->ez.get? b=ab o:=λb hb o e=>kp b o (λq=>HY<|cU.mp q▸hb) e
  have oK:=bo.st.ext kp λb hb=>cU.mp hb▸⟨N.sL,gL⟩
  have f:=bo.aQ.jc
  exact k ⟨μ₂.g,ez,μ₂.rs,μ₂.tk⟩ _ cK .nx _ os ⟨⟨bo.aQ.gl,⟨oK.gh,bo.aQ.rel.len,λi r a h1 h2=>(bo.aQ.rel.root i r a h1 h2).step (.refl _) λb hb o e=>kf b (lQ h1 h2 hb) o e,bo.aQ.rel.nodup,bo.aQ.rel.ck⟩,
   ⟨f.ns.imp λ_ q=>q.elim λo q=>q.elim λes q=>q.elim λep q=>⟨o,es,ep,ke _ (gZ ..) _ q.1,q.2⟩,λp hp=>(f.mK p hp).imp λ_ q=>q.imp λ_ q=>⟨ke _ (iE _ (eE.mpr ⟨p,hp,rfl⟩)) _ q.1,q.2⟩,f.ck,f.apart,f.has,λi y kd m h1 h2 h3=>(f.lG i y kd m h1 h2 h3).imp λv q=>⟨q.1.step ke,q.2⟩⟩,bo.aQ.len⟩,oK,bo.sub,bo.ext,bo.jd⟩ rfl (er▸h)
theorem zS{ss:af fI}{ts:af ST}(H:a7 (λs t=>Ss c (iU s c.env)<|wS c.C c.cb t) ss ts):Ss c (Ao ss c.env) (dK c.C c.cb ts):=by
 induction H with
 |nil=>exactλvs as μ os K Q n h k=>R0 (k μ vs as .nx _ os n.ft.ma rfl h)|cons h1 h2 ih=>
  refineλvs as μ os K Q n h k=>wpAny_execs_cons (h1 n h λμ₁ iH jy fl f os T p h=>?_)
  cases fl with
  |nx=>cases p;exact ih T.aQ h λμ₂ kF jU fl f os bo p h=>k μ₂ kF jU fl f os (T.trans bo) (p.jJ T.st.f7) h|bk=>cases p;exact k μ₁ iH jy .bk .brk os T rfl h|ct=>cases p;exact k μ₁ iH jy .ct .cont os T rfl h|rt m=>obtain⟨v,rfl,t⟩:=p;exact k μ₁ iH jy (.rt m) (.ret v) os T ⟨v,rfl,t⟩ h
theorem ab6{a b:af fI}{a' b':af ST}(Ht:Bx c e x)(Ha:Ss c (Ao a c.env) (dK c.C c.cb a'))(Hb:Ss c (Ao b c.env) (dK c.C c.cb b')):Ss c (iU (.If e a b pos) c.env) (wS c.C c.cb<|.ite x a' b'):=λvs as μ os K Q n h k=>
 wpAny_If (Ht n h λμ₁ m q os T _ h=>by
  cases q with
  |true=>exact Ha T.aQ h λμ₂ kF jU fl f os bo p h=>k μ₂ kF jU fl f os (T.ma.trans bo) (p.jJ T.st.f7) h|false=>exact Hb T.aQ h λμ₂ kF jU fl f os bo p h=>k μ₂ kF jU fl f os (T.ma.trans bo) (p.jJ T.st.f7) h)
theorem tR{E:aB->aZ->Prop}:∀(e:aB)(s:aZ),No e s->E e s:=λ_ _ z=>z.elim
abbrev Kz(c:Cx)(x:X)(b':af ST):ai->Rs->Vs->Os->(Fl->Rs->Vs->Os->Prop)->Prop:=oG (λrs vs os K=>wT c.C c.cb x rs vs os λ_=>K) (λrs vs os K=>dK c.C c.cb b' rs vs os K)
theorem Ub{b:af fI}{b':af ST}(Ht:Bx c e x)(Hb:Ss c (Ao b c.env) (dK c.C c.cb b'))(fuel:ai):Ss c (iU (.While e b [] pos) c.env) (Kz c x b' fuel):=λvs as μ os K Q n h k=>by
 refine wpAny_While (codeAny_whileLoop (λfuel s=>∃μ' eB cK os,s=c.st μ'/\ik c μ as μ' eB cK/\Kz c x b' fuel μ'.rs eB os K) ?_ fuel ⟨μ,vs,as,os,rfl,n.ft.ma,h⟩)
 rintro fuel s ⟨μ',eB,cK,os,rfl,T,h⟩
 cases fuel with
 |zero=>exact h.elim|succ fuel=>
  refine fq (E:=No) (Ht T.aQ h λμ₁ m q os eP _ h=>?_) (λ_ _ h=>h) tR
  have T':=T.trans eP.ma
  cases q with
  |false=>exact(br ed).mpr (R0<|k μ₁ eB cK .nx _ os T' rfl h)|true=>
   refine(a9 rfl).mpr (fq (E:=No) (Hb T'.aQ h λμ₂ kF jU fl f os bo p h=>?_) (λ_ _ h=>h) tR)
   have dC:=T'.trans bo
   cases fl with
   |nx=>cases p;exact⟨fuel,pz _,μ₂,kF,jU,os,rfl,dC,h⟩|ct=>cases p;exact⟨fuel,pz _,μ₂,kF,jU,os,rfl,dC,h⟩|bk=>cases p;exact k μ₂ kF jU .nx _ os dC rfl h|rt m=>obtain⟨v,rfl,t⟩:=p;exact k μ₂ kF jU (.rt m) _ os dC ⟨v,rfl,TM.Ly t T'.st.f7⟩ h
theorem T9{tf:Rs->Vs->Os->(az->Rs->Os->Prop)->Prop}{bf:Rs->Vs->Os->(Fl->Rs->Vs->Os->Prop)->Prop}{rs:Rs}{vs:Vs}{os:Os}{K:Fl->Rs->Vs->Os->Prop}(h:Eu tf bf rs vs os K):∃n os,∃hY:Fl->Rs->Vs->Os->Prop,oG tf bf n rs vs os hY/\∀fl rs vs os,hY fl rs vs os->∃os,K fl rs vs os:=by
 unfold Eu at h
 cases e:CE os with
 |none=>rw[e] at h;exact h.elim|some q=>rw[e] at h;exact h.1.elim λn h'=>h'.elim λiN h'=>⟨n,iN,_,h',λfl rs vs os p=>⟨q.2.2.2,by rw[p.1,p.2.1,p.2.2];exact h.2⟩⟩
theorem ac2{bf:V->Rs->Vs->Os->(Fl->Rs->Vs->Os->Prop)->Prop}{xs:af V}{rs:Rs}{vs:Vs}{os:Os}{K:Fl->Rs->Vs->Os->Prop}(h:HP bf xs rs vs os K):∃os,∃hY:Fl->Rs->Vs->Os->Prop,je bf xs rs vs os hY/\∀fl rs vs os,hY fl rs vs os->∃os,K fl rs vs os:=by
 unfold HP at h
 cases e:CE os with
 |none=>rw[e] at h;exact⟨os,K,h,λfl rs vs os q=>⟨os,q⟩⟩|some q=>rw[e] at h;exact h.1.elim λiN h'=>⟨iN,_,h',λfl rs vs os p=>⟨q.2.2.2,by rw[p.1,p.2.1,p.2.2];exact h.2⟩⟩
theorem Ua{b:af fI}{b':af ST}(Ht:Bx c e x)(Hb:Ss c (Ao b c.env) (dK c.C c.cb b')):Ss c (iU (.While e b [] pos) c.env) (wS c.C c.cb<|.cM x b'):=λvs as μ os K Q n h k=>(T9 h).elim λfuel h=>h.elim λiN h=>h.elim λhY h=>
 Ub Ht Hb fuel n h.1 λμ' eB cK fl f os T p e=>(h.2 _ _ _ _ e).elim λos e=>k μ' eB cK fl f os T p e
theorem ik.cR{g h:aI}{Fo:af aP}(T:ik c μ as μ₁ iH jy)(tk:ai)(st:Step μ₁.g μ₁.h Fo g h)(hW:∀b∈Fo,μ.h.get? b=aw/\b∉bp μ₁.rs jy/\b∉gF c.env):ik c μ as ⟨g,h,μ₁.rs,tk⟩ iH jy where
 aQ:=⟨T.aQ.gl.aU st.gg,T.aQ.rel.step st λb hb q=>(hW b q).2.1 hb,by
  have f:=T.aQ.jc
  have ke:∀b∈gF c.env,∀o,μ₁.h.get? b=ab o->h.get? b=ab o:=λb hb o e=>st.frame b o e λq=>(hW b q).2.2 hb
  exact⟨f.ns.imp λ_ q=>q.elim λo q=>q.elim λes q=>q.elim λep q=>⟨o,es,ep,ke _ (gZ ..) _ q.1,q.2⟩,λp hp=>(f.mK p hp).imp λ_ q=>q.imp λ_ q=>⟨ke _ (iE _ (eE.mpr ⟨p,hp,rfl⟩)) _ q.1,q.2⟩,
   λb hb=>⟨st.ck (f.ck b hb).1 (f.alloc hb) λq=>(hW b q).2.2 hb,(f.ck b hb).2⟩,f.apart,f.has,λi y kd m h1 h2 h3=>(f.lG i y kd m h1 h2 h3).imp λv q=>⟨q.1.step ke,q.2.aU st.gg⟩⟩,T.aQ.len⟩
 st:=T.st.trans st λb hb=>.inr (hW b hb).1
 sub:=T.sub
 ext:=T.ext
 jd:=T.jd
theorem ik.nX{h':aI}{Fo:af aP}(T:ik c μ as μ₁ iH jy)(tk:ai)(k:∀b o,b∉Fo->μ₁.h.get? b=ab o->h'.get? b=ab o)(hW:∀b∈Fo,μ.h.get? b=aw/\μ₁.g.get? b=aw/\b∉bp μ₁.rs jy/\b∉gF c.env):ik c μ as ⟨μ₁.g,h',μ₁.rs,tk⟩ iH jy:=by
 have kf:∀b∈bp μ₁.rs jy,∀o,μ₁.h.get? b=ab o->h'.get? b=ab o:=λb hb o e=>k b o (λq=>(hW b q).2.2.1 hb) e
 have ke:∀b∈gF c.env,∀o,μ₁.h.get? b=ab o->h'.get? b=ab o:=λb hb o e=>k b o (λq=>(hW b q).2.2.2 hb) e
 have oK:=T.st.ext k λb hb=>⟨(hW b hb).1,(hW b hb).2.1⟩
 have f:=T.aQ.jc
 exact⟨⟨T.aQ.gl,⟨oK.gh,T.aQ.rel.len,λi r a h1 h2=>(T.aQ.rel.root i r a h1 h2).step (.refl _) λb hb o e=>kf b (lQ h1 h2 hb) o e,T.aQ.rel.nodup,T.aQ.rel.ck⟩,
  ⟨f.ns.imp λ_ q=>q.elim λo q=>q.elim λes q=>q.elim λep q=>⟨o,es,ep,ke _ (gZ ..) _ q.1,q.2⟩,λp hp=>(f.mK p hp).imp λ_ q=>q.imp λ_ q=>⟨ke _ (iE _ (eE.mpr ⟨p,hp,rfl⟩)) _ q.1,q.2⟩,f.ck,f.apart,f.has,λi y kd m h1 h2 h3=>(f.lG i y kd m h1 h2 h3).imp λv q=>⟨q.1.step ke,q.2⟩⟩,T.aQ.len⟩,oK,T.sub,T.ext,T.jd⟩
structure RS(c:Cx)(μ:Mo)(as:af Ad)(St:ai->aI->aI->Prop)(wr:af aP)(xs:af V)(tw:V->Rs->Vs->Os->(Fl->Rs->Vs->Os->Prop)->Prop)(K:Fl->Rs->Vs->Os->Prop)(k i:ai)(μi:Mo)(rl:Vs)(su:af Ad)(os:Os):Prop where
 ft:ik c μ as μi rl su
 st:St i μi.g μi.h
 le:i<=xs.length
 ck:∀b∈wr,b∉bp μi.rs su
 go:je tw (xs.drop i) μi.rs rl os K
 k:k=xs.length-i+1
theorem ac1{te it:aX}{arg:aX->aX}{b:af fI}{b':af ST}{tg:Tg}{eU:IK}(F:b6 c)(se:pM c.sc tg=ae)(hk:zk c.sc eU tg=ae)(zt:Aa (k9 eU it arg))(He:Sy c (arg<|zj eU it) x)(Hb:Ss c (Ao b c.env) (dK c.C c.cb b')):
  Ss c (iU (.For (gG c.sc tg te) (k9 eU it arg) b [] pos) c.env) (wS c.C c.cb<|.for tg eU x b'):=λvs as μ os K Q n h k=>by
 refine wpAny_For (OC (te:=te) F hk He c.sc n h λμ₂ xs os I wr St bo J sf lO h=>(ac2 h).elim λos h=>h.elim λhY h=>?_) (zt c.env)
 have A7:∀b∈wr,b∉gF c.env:=λb hb q=>iO (lO b hb) (n.zI b q)
 refine codeAny_forLoop_any (λk s=>∃i μi rl su os,s=c.st μi/\RS c μ as St wr xs (λx rs vs os K=>b4 (hO tg x vs) os λvs os=>dK c.C c.cb b' rs vs os K) hY k i μi rl su os) ?_ (xs.length+1)
  ⟨0,μ₂,vs,as,os,rfl,bo.ma,sf,bQ _,λb hb q=>iO (lO b hb) (n.alloc bo b q),h.1,rfl⟩
 have a6:∀{μ':Mo}{eB:Vs}{cK:af Ad}{fl:Fl}{f:xH}{os:Os},ik c μ as μ' eB cK->Ae c cK μ μ' fl f->hY fl μ'.rs eB os->Q f (c.st μ'):=λT p e=>(h.2 _ _ _ _ e).elim λos e=>k _ _ _ _ _ os T p e
 rintro kk s ⟨i,μi,rl,su,os,rfl,P⟩
 have gE:=P.go
 cases hd:xs.drop i with
 |nil=>
  rw[hd] at gE
  have hi:i=xs.length:=Jm P.le (ajy.mp hd)
  refine fq (J.done i μi.g (c.st μi) hi P.st P.ft.aQ.le (λr aA=>r=aw/\Q .next aA) λh' tk kp=>⟨rfl,a6 (fl:=.nx) (P.ft.nX tk kp λb hb=>⟨lO b hb,(J.live i _ _ P.st b hb).2,P.ck b hb,A7 b hb⟩) rfl gE⟩) (λr aA hr=>hr.1▸R0 hr.2) tR
 |cons y rest=>
  have d6:i<xs.length:=ai6 P.le λq=>by rw[q,ajx] at hd;cases hd
  have hr:xs.drop (i+1)=rest:=by rw[<-ajb,hd];rfl
  have hy:xs[i]?=ab y:=by rw[<-ajr,hd];rfl
  rw[hd] at gE
  have gE:b4 (hO tg y rl) os λvs os=>dK c.C c.cb b' μi.rs vs os λfl rs vs os=>match fl with
   | .nx=>je (λx rs vs os K=>b4 (hO tg x vs) os λvs os=>dK c.C c.cb b' rs vs os K) rest rs vs os hY| .ct=>je (λx rs vs os K=>b4 (hO tg x vs) os λvs os=>dK c.C c.cb b' rs vs os K) rest rs vs os hY| .bk=>hY .nx rs vs os| .rt m=>hY (.rt m) rs vs os:=gE
  have hk:∀m,m=xs.length-(i+1)+1->m<kk:=λm e=>by rw[e,P.k];omega
  refine fq (J.next i μi.g (c.st μi) y hy P.st P.ft.aQ.le (λv aA=>aT (bH c.prog c.w) c.A (jY (gG c.sc tg te) c.env v) _ No aA) λv dw h₁ oJ sp lD rv=>?_) (λr aA hr=>hr.elim λv q=>q.1▸fq q.2 (λ_ aS h=>fq h (λ_ _ h=>h) tR) tR) tR
  refine b4.on gE λiH hb gE=>?_
  have eP:=P.ft.cR oJ sp λb hb=>⟨lO b hb,P.ck b hb,A7 b hb⟩
  refine Ii (s:=c.st ⟨dw,h₁,μi.rs,oJ⟩) F.gJ.hd F.ok F.so eP.aQ.le eP.aQ.jc se rv hb (λid _=>Wr.all c.env c.sc id) λcH iI md o2=>?_
  have bo:ik c μ as ⟨dw,cH,μi.rs,iI⟩ iH su:=⟨⟨eP.aQ.gl,eP.aQ.rel.step md λb hb q=>(eP.aQ.jc.ck b q).2 hb,o2,(Ie hb).trans eP.aQ.len⟩,eP.st.trans md λb hb=>.inl (u6 _ hb),eP.sub,eP.ext,eP.jd⟩
  have K1:St (i+1) dw cH:=J.step _ _ _ _ _ _ lD eP.aQ.le md A7
  refine fq (E:=No) (Hb bo.aQ gE λjo KC agS fl f os dC p h=>?_) (λ_ _ h=>h) tR
  have T:=bo.trans dC
  have next:je (λx rs vs os K=>b4 (hO tg x vs) os λvs os=>dK c.C c.cb b' rs vs os K) rest jo.rs KC os hY->∃m,m<kk/\∃i μi rl su os,c.st jo=c.st μi/\RS c μ as St wr xs (λx rs vs os K=>b4 (hO tg x vs) os λvs os=>dK c.C c.cb b' rs vs os K) hY m i μi rl su os:=λh=>
   ⟨_,hk _ rfl,i+1,jo,KC,agS,os,rfl,T,J.step _ _ _ _ _ _ K1 bo.aQ.le dC.st λb hb q=>(iX.mp q).elim (P.ck b hb) (A7 b hb),d6,λb hb q=>(dC.sub b q).elim (P.ck b hb) λz=>iO z (J.live _ _ _ K1 b hb).1,hr▸h,rfl⟩
  cases fl with
  |nx=>cases p;exact next h|ct=>cases p;exact next h|bk=>cases p;exact a6 T (fl:=.nx) rfl h|rt m=>obtain⟨v,rfl,t⟩:=p;exact a6 T (fl:=.rt m) ⟨v,rfl,TM.Ly t bo.st.f7⟩ h
end
section
variable{c:Cx}{x y z:X}{e e' jv:aX}{pos:eJ}{vs eB iH kF:Vs}{as cK jy jU:af Ad}{μ μ' μ₁ μ₂:Mo}
theorem TR.more{prog:cC}{w:dv}{g h h₀ h₁:aI}{m:MV}{v:aB}(x:TR prog w g h h₀ h₁ as m v)(e:as<+:cK):TR prog w g h h₀ h₁ cK m v:=by
 obtain⟨bs,rfl⟩:=e
 cases m with
 |own r=>exact x|val d=>exact x|ref i=>exact MR.more (g:=g) (m:=.ref i) x|vars i=>exact MR.more (g:=g) (m:=.vars i) x|bM i=>exact MR.more (g:=g) (m:=.bM i) x
theorem KM{i j:ai}{m m':MV}{u u':aB}{f g:aB->eD Unit}{Q:Unit->aZ->Prop}(F:b6 c)(hi:iK c.sc i=ae)(hj:iK c.sc j=ae)(n:cG c vs as μ)(r:MR μ.g as m u)(r':MR μ.g as m' u')
  (hf:∀{s:aZ}{Q:Unit->aZ->Prop},aT (bH c.prog c.w) c.A (IM c.env (nm c.sc i) u) Q No s->aT (bH c.prog c.w) c.A (f u) Q No s)(hg:∀{s:aZ}{Q:Unit->aZ->Prop},aT (bH c.prog c.w) c.A (IM c.env (nm c.sc j) u') Q No s->aT (bH c.prog c.w) c.A (g u') Q No s)
  (k:∀h' tk,Step μ.g μ.h (gF c.env) μ.g h'->gH μ.g h' c.env c.sc ((vs.set i<|ab m).set j<|ab m') as (bp μ.rs as)->Q () (c.st ⟨μ.g,h',μ.rs,tk⟩)):W c (aib [f,g] [u,u']) Q μ:=
 (yv hi).elim λ_ S=>(yv hj).elim λ_ S'=>SR (hf<|Bn F.ok F.so n.le n.jc S r (Wr.all c.env c.sc _) λh₁ oJ lD HM=>
  SR (hg<|Bn (s:=c.st ⟨μ.g,h₁,μ.rs,oJ⟩) F.ok F.so lD.gh HM S' r' (Wr.all c.env c.sc _) λcH iI md o2=>akS (k cH iI (lD.HX md) o2)))
structure ahu(c:Cx)(vs:Vs)(as:af Ad)(μ μ₁:Mo)(m m':MV)(u u':aB)(m₁ m₂:MV)(cj:Rs)(cK:af Ad):Prop where
 eq:∀(i j:ai)(vs:Vs),hV j m' (hV i m μ₁.rs vs).1 (hV i m μ₁.rs vs).2=(cj,(vs.set i<|ab m₁).set j<|ab m₂)
 r1:MR μ₁.g cK m₁ u
 r2:MR μ₁.g cK m₂ u'
 aQ:cG c vs cK ⟨μ₁.g,μ₁.h,cj,μ₁.tk⟩
 ext:as<+:cK
 sub:∀b∈bp cj cK,b∈bp μ₁.rs as\/μ.h.get? b=aw
 jd:∀(i:ai)(a:Ad),as.length<=i->cK[i]?=ab a->∀b∈[a.1,a.2.1,a.2.2],μ.h.get? b=aw
theorem ahn{m m':MV}{u u':aB}{ha hb:aI}(n:cG c vs as μ)(T:cF c vs as μ μ₁)(t:TR c.prog c.w μ₁.g μ₁.h μ.h ha as m u)(hd:∀b,ha.get? b=aw->μ.h.get? b=aw)(t':TR c.prog c.w μ₁.g μ₁.h ha hb as m' u'):∃m₁ m₂ cj cK,ahu c vs as μ μ₁ m m' u u' m₁ m₂ cj cK:=
 (Iv T.aQ n.zI (n.alloc T) t).elim λm₁ q=>q.elim λyF q=>q.elim λjy A=>
  have dA:∀b,(μ.h.get? b).isSome=ae->(ha.get? b).isSome=ae:=λb=>r8 hd
  (Iv (h₀:=ha) A.aQ (λb hb=>dA b<|n.zI b hb) (λb hb=>(A.sub b hb).elim (λq=>dA b<|n.alloc T b q) λq=>q.2.1)<|t'.more A.ext).elim λm₂ q=>q.elim λvY q=>q.elim λjU B=>
   ⟨m₁,m₂,vY,jU,λi j vs=>by rw[A.eq i vs];exact B.eq j _,B.ext.elim λbs e=>e▸A.mr.more,B.mr,B.aQ,A.ext.trans B.ext,λb hb=>(B.sub b hb).elim (λq=>(A.sub b q).imp id And.left) λq=>.inr (hd b q.1),λi x hi e b hb=>by
    rcases u5 i jy.length with q|q
    ·exact A.jd i x hi (B.ext.elim λbs w=>(u9 q).symm.trans<|w.symm▸e) b hb
    ·exact hd b<|B.jd i x q e b hb⟩
theorem ag2{pa pb p p':eJ}{kd GG:ai}{i j:ai}(F:b6 c)(H:a7 (Sy c) [e,e'] [x,y])(hc:[e,e'].all (IX 8)=ag)(HF:nm c.sc i≠nm c.sc j)(hi:iK c.sc i=ae)(hj:iK c.sc j=ae):
  Ss c (iU (.Assign [.Tuple [.Name (nm c.sc i) pa,.Name (nm c.sc j) pb] kd p] (.Tuple [e,e'] GG p') pos) c.env) (wS c.C c.cb<|.lU i j x y):=λvs as μ os K Q n h k=>by
 rw[aic]
 refine aY (jW<|aY (sF (show ahU [.Tuple [.Name (nm c.sc i) pa,.Name (nm c.sc j) pb] kd p] (.Tuple [e,e'] GG p') pos.line c.env=pure ag from rfl) ?_))
 rw[br ed]
 refine aY ?_
 rw[aid]
 refine aY (jW<|aY (yH H (K:=λms rs os=>b4 (bU ms) os λq os=>K .nx (hV j q.2 (hV i q.1 rs vs).1 (hV i q.1 rs vs).2).1 (hV j q.2 (hV i q.1 rs vs).1 (hV i q.1 rs vs).2).2 os) n h λμ₁ m us os T ts h=>b4.on h λq e2 h=>ts.1.KL (P:=λus=>aT (bH c.prog c.w) c.A (Si us) _ No _) e2 λu u' ha hb t hd t'=>wpAny_newTuple ?_ (show 2<=jm by decide)))
 have kp:=gI μ₁.h {cls:=.type "tuple",data:=.seq [u,u'].toArray}
 have hT:(μ₁.h.push {cls:=.type "tuple",data:=.seq [u,u'].toArray}).IsTuple μ₁.h.objs.size #[u,u']:=⟨_,lz _ rfl,rfl,0,rfl⟩
 have eP:=T.aQ.fm μ₁.tk kp
 have t:=TR.step t (.fm [] T.aQ.le kp) λ_ q=>nomatch q
 have t':=TR.step t' (.fm [] T.aQ.le kp) λ_ q=>nomatch q
 generalize μ₁.h.push {cls:=.type "tuple",data:=.seq [u,u'].toArray}=Dh at kp hT eP t t' ⊢
 generalize μ₁.h.objs.size=Ta at hT ⊢
 have bo:=T.trans eP
 refine(ahn n bo t hd t').elim λm₁ w=>w.elim λm₂ w=>w.elim λrs w=>w.elim λcK B=>?_
 rw[B.eq] at h
 have a6:∀ez,Le Dh ez->∀h' tk,Step μ₁.g ez (gF c.env) μ₁.g h'->gH μ₁.g h' c.env c.sc ((vs.set i<|ab m₁).set j<|ab m₂) cK (bp rs cK)->Q .next (c.st ⟨μ₁.g,h',rs,tk⟩):=λez le h' tk st fr=>
  k ⟨μ₁.g,h',rs,tk⟩ _ cK .nx _ os (ik.names (h':=h') (μ₁:=⟨μ₁.g,ez,μ₁.rs,tk⟩) n (bo.trans<|bo.aQ.fm tk le) tk (B.aQ.fm tk le).aQ st fr (pC.trans pC) B.ext B.sub B.jd) rfl h
 have KI:∀{Q:af aB->aZ->Prop},(∀ez,Le Dh ez->Q [u,u'] (c.st ⟨μ₁.g,ez,rs,μ₁.tk⟩))->aT (bH c.prog c.w) c.A (Ds (.ref Ta) 2 aw) Q No (c.st ⟨μ₁.g,Dh,rs,μ₁.tk⟩):=λhq=>UH (s:=c.st ⟨μ₁.g,Dh,rs,μ₁.tk⟩) F.gJ.hd hT hq
 refine(Vf (env:=c.env) (k:=kd) (k':=GG) (p:=p) (p':=p') (pa:=pa) (pb:=pb) (a:=nm c.sc i) (b:=nm c.sc j) hc).elim (λhs=>aY<|sF hs ?_) λhs=>aY (sF hs ?_)
 ·refine aY (m:=SD (.ref Ta) [jY (.Tuple [.Name (nm c.sc i) pa,.Name (nm c.sc j) pb] kd p) c.env]) ?_
  show aT _ _ (jY (.Tuple [.Name (nm c.sc i) pa,.Name (nm c.sc j) pb] kd p) c.env<|.ref Ta) _ _ _
  rw[aie]
  exact aY (jW<|aY (kB<|KI λez le=>KM (f:=jY (.Name (nm c.sc i) pa) c.env) (g:=jY (.Name (nm c.sc j) pb) c.env) F hi hj (B.aQ.fm μ₁.tk le).aQ B.r1 B.r2 II II λh' tk st fr=>b7 (a6 ez le h' tk st fr)))
 ·exact aY (Dp<|aY (KI λez le=>aY<|KM (f:=λv=>bindName c.env (nm c.sc j) v) (g:=λv=>bindName c.env (nm c.sc i) v) F hj hi (B.aQ.fm μ₁.tk le).aQ B.r2 B.r1 ahM ahM λh' tk st fr=>b7 (a6 ez le h' tk st<|List.set_comm _ _ (λq=>HF<|ay _ q)▸fr)))
theorem agY{i:ai}{p:eJ}{x:X}{e:aX}(F:b6 c)(h:d4 c.c0 x c.sc e=ae)(hi:iK c.sc i=ae)(hk:M7 x=ae):Ss c (iU (.Assign [.Name (nm c.sc i) p] (cI x c.sc e) pos) c.env) (wS c.C c.cb<|.aN i x):=by
 cases q:BV x with
 |true=>exact qN F hi (jw x c e F h).1 ((oV x c.sc e).KY q _ _ _)|false=>
  cases x with
  |comp el ni tg k y co=>exact Qz (P:=λ_=>Ss c (iU (.Assign [.Name (nm c.sc i) p] (cI (.comp el ni tg k y co) c.sc e) pos) c.env)<|wS c.C c.cb (.aN i<|.comp el ni tg k y co)) F h (jw el) (jw y) (jw co) λC q=>q▸ag1 (te:=(g8 e).target) (pos:=e.pos) F hi C|tY y=>exact q6 (show ag=ae from hk)|_=>exact q6 (show ae=ag from q)
def PS(t:ST):Prop:=∀(c:Cx)(s:fI),b6 c->MZ c.c0 t c.sc s=ae->Ss c (iU (Qm t c.sc s) c.env) (wS c.C c.cb t)
def RN(ts:af ST):Prop:=∀(c:Cx)(ss:af fI),b6 c->rL c.c0 ts c.sc ss=ae->a7 (λs t=>Ss c (iU s c.env)<|wS c.C c.cb t) (o5 ts c.sc ss) ts
theorem Xe(x:X):PS (.ret x):=λc s F h=>by
 show Ss c (iU (.Return (match zl s with|true=>aw|false=>ab<|cI x c.sc (vE s)) s.pos) c.env) (wS c.C c.cb<|.ret x)
 have h:(match zl s with|true=>r9 x|false=>d4 c.c0 x c.sc<|vE s)=ae:=h
 cases q:zl s with
 |true=>rw[q] at h;exact Xg h|false=>rw[q] at h;exact Xf (jw x c _ F h).1
theorem aeA:∀ts,RN ts:=ST.rec_1 (motive_1:=PS) (motive_2:=RN)
 (λx c s F h=>adw F (jw x c _ F (bC h).1).1 (bC h).2)
 (λi x c s F h=>agY F (bC h).1 (bC (bC h).2).1 (bC (bC h).2).2)
 (λis x c s F h=>agZ F (bC (bC h).2).1 (jw x c _ F (bC h).1).1 (bC (bC h).2).2)
 (λi j x y c s F h=>have h1:=bC h;have h2:=bC h1.2;have h3:=bC h2.2;have h4:=bC h3.2;have h5:=bC h4.2
  ag2 F (.cons ⟨(jw x c _ F h1.1).1,vT _ _ _⟩<|.cons ⟨(jw y c _ F h2.1).1,vT _ _ _⟩ .nil) (uQ h5.2) (eV h5.1) h3.1 h4.1)
 (λo i x c s F h=>ag0 (jw o c _ F (bC h).1).1 (jw i c _ F (bC (bC h).2).1).1 (jw x c _ F (bC (bC h).2).2).1)
 (λo i x c s F h=>agQ (jw o c _ F (bC h).1).1 (jw i c _ F (bC (bC h).2).1).1 (jw x c _ F (bC (bC h).2).2).1)
 (λx a b ha hb c s F h=>ab6 (jw x c _ F (bC h).1).2 (zS<|ha c _ F (bC (bC h).2).1)<|zS (hb c _ F (bC (bC h).2).2))
 (λx a ha c s F h=>Ua (jw x c _ F (bC h).1).2<|zS (ha c _ F (bC h).2))
 (λtg k x a ha c s F h=>have h1:=bC h;have h2:=bC h1.2;have h3:=bC h2.2
  ac1 F h3.2 h3.1 (OG k _ x c.sc) ⟨(jw x c _ F h1.1).1,vT _ _ _⟩ (zS<|ha c _ F h2.1))
 Xe
 (λc s F h=>aff)
 (λc s F h=>aeN)
 (λc s F h vs as μ os K Q n h k=>h.elim)
 (λ_ _ _ _=>.nil)
 λt ts ht hs c ss F h=>.cons (ht c _ F (bC h).1) (hs c _ F (bC h).2)
end
theorem AH(ns:af aq){bT:af aB}(h:bT.length=ns.length):(ns.zip bT).map (·.1)=ns:=ajl (bA h.symm)
theorem PO:∀(l:af (aq×aB))(kz:af (aq×aB)),(∀p∈l,kz.lookup p.1=ab p.2)->(l.map (·.1)).filterMap (λn=>(kz.lookup n).map (n,·))=l
 |[],_,_=>rfl|p::l,kz,h=>by
  simp only [mV,xP,h p (gZ ..),aiV]
  rw[PO l kz λq hq=>h q<|iE _ hq]
theorem Z5{α β γ:Type}(k:ai)(l:af α)(b:β)(f:α×γ->β->eD (ForInStep β)):forIn (l.zip<|pD k ([]:af γ)) b f=pure b:=by rw[Tn,List.zip_nil_right];rfl
theorem afv{α β:Type}{m:eD α}{a:α}{f:α->eD β}{r:eD β}(h:m=pure a)(k:f a=r):(m>>=f)=r:=h▸k
theorem Nr{ns:af aq}{bT:af aB}(h:bT.length=ns.length)(hn:ns.Nodup):∀p∈ns.zip bT,(ns.zip bT).lookup p.1=ab p.2:=λp hp=>tV ((AH ns h).symm▸hn) hp
theorem aaj{ns:af aq}{bT:af aB}(h:bT.length=ns.length)(hn:ns.Nodup):(ns.filter λn=>((ns.zip bT).lookup n).isNone)=[]:=
 List.filter_eq_nil_iff.mpr λn hm=>by
  obtain⟨p,hp,rfl⟩:=eE.mp ((AH ns h).symm▸hm)
  rw[Nr h hn p hp]
  exact ed
theorem aai{ns:af aq}{bT:af aB}(h:bT.length=ns.length)(hn:ns.Nodup):((ns++[]).filterMap λn=>((ns.zip bT).lookup n).map (n,·))=ns.zip bT:=by
 have e:=PO _ _ (Nr h hn)
 rw[AH ns h] at e
 exact(fy ns).symm▸e
theorem afu{name:aq}{params:Arguments}{body:af fI}{scope:gR}{pm cd doc:aB}{bT:af aB}(h1:params.posonlyargs=[])(h2:params.vararg=aw)(h3:params.kwonlyargs=[])(h4:params.kwarg=aw)
  (hl:bT.length=params.args.length)(hn:(params.args.map (·.arg)).Nodup):
  bindArgs (SN name params body scope pm cd doc) ⟨bT,[]⟩=pure ((params.args.map (·.arg)).zip bT):=by
 obtain⟨po,ar,va,ko,kd,kw,df⟩:=params
 cases h1
 cases h2
 cases h3
 cases h4
 have hl:bT.length=(ar.map (·.arg)).length:=hl.trans (iF ..).symm
 have hn:(ar.map (·.arg)).Nodup:=hn
 show bindArgs (SN name ⟨[],ar,aw,[],kd,aw,df⟩ body scope pm cd doc) ⟨bT,[]⟩=pure ((ar.map (·.arg)).zip bT)
 refine(br (c:=(decide (bT.length>(ar.map (·.arg)).length)&&ae)=ae) λq=>DM (eV (dc.mp q).1) hl).trans ((br (c:=(!(((ar.map (·.arg)).take<|(ar.map (·.arg)).length-(pD (0-(ar.map (·.arg)).length) ([]:af aB)).length).filter λn=>(((ar.map (·.arg)).zip bT).lookup n).isNone).isEmpty)=ae) ?_).trans (afv (a:=(ar.map (·.arg)).zip bT) ?_ (ay (pure (f:=eD))<|aai hl hn)))
 ·rw[Tn,DR,ai0,Jo,aaj hl hn];exact ed
 ·exact Z5 (0-(ar.map (·.arg)).length) _ _ _
section
open PyProof.Rows
theorem ae4(p:aq×eK)(r:af (aq×eK))(n:ai)(acc:af (aq×aP)):ph n (p::r) acc=if(p.2==.cell)=ae then ph (n+1) r ((p.1,n)::acc) else ph n r acc:=rfl
theorem ae7(names:af (aq×eK)):∀(n:ai)(acc:af (aq×aP)),(ph n names acc).map (·.1)=((names.filter λp=>p.2==.cell).map (·.1)).reverse++acc.map (·.1):=by
 induction names with
 |nil=>exactλn acc=>rfl|cons p r ih=>
  intro n acc
  rw[ae4]
  by_cases hk:(p.2==.cell)=ae
  ·rw[a9 hk,ih,mW,a9 hk,mV,mV,ajd,oz];rfl
  ·rw[br hk,ih,mW,br hk]
theorem QK(names:af (aq×eK))(n:ai):(ph n names []).map (·.1)=((names.filter λp=>p.2==.cell).map (·.1)).reverse:=(ae7 names n []).trans (fy _)
theorem QJ{names:af (aq×eK)}{n:ai}(h:(names.map (·.1)).Nodup):((ph n names []).map (·.1)).Nodup:=
 QK names n▸(ajc _).nodup_iff.mpr (h.sublist<|Jv _ Js)
theorem H8{names:af (aq×eK)}{n:ai}{x:aq}(h:(names.map (·.1)).Nodup)(hx:names.lookup x=ab .cell):((ph n names []).lookup x).isSome=ae:=
 have q:x∈(ph n names []).map (·.1):=QK names n▸S7.mpr (eE.mpr ⟨(x,.cell),xN.mpr ⟨lK hx,rfl⟩,rfl⟩)
 (eE.mp q).elim λp w=>w.2▸(tV (QJ h) w.1).symm▸rfl
section
variable{kindOf:aq->aD eK}
theorem OA{α:Type}{c:Prop}[Decidable c]{a b:α}{x:α}(h:a=x)(h':b=x):(if c then a else b)=x:=by by_cases q:c;exact(a9 q).trans h;exact(br q).trans h'
theorem C0{α β:Type}{c:Prop}[Decidable c]{f g:α->β}(x:α):(if c then f else g) x=if c then f x else g x:=apply_ite (λ(f:α->β)=>f x) c f g
theorem afx{x:aq}{bs:af (aq×aB)}:∀{m:aq->aD aB},x∉bs.map (·.1)->IZ kindOf bs m x=m x:=by
 induction bs with
 |nil=>exactλ_=>rfl|cons p bs ih=>exactλh=>(ih λq=>h<|.tail _ q).trans ((C0 x).trans (OA (br λq:x=p.1=>h<|dX.mpr (.inl q)) rfl))
theorem afz{x:aq}{bs:af (aq×aB)}:∀{m:aq->aD aB},x∉bs.map (·.1)->I0 kindOf bs m x=m x:=by
 induction bs with
 |nil=>exactλ_=>rfl|cons p bs ih=>exactλh=>(ih λq=>h<|.tail _ q).trans ((C0 x).trans (OA rfl (br λq:x=p.1=>h<|dX.mpr (.inl q))))
theorem afw{x:aq}{v:aB}(hk:kindOf x=ab .local){bs:af (aq×aB)}:∀{m:aq->aD aB},(bs.map (·.1)).Nodup->(x,v)∈bs->IZ kindOf bs m x=ab v:=by
 induction bs with
 |nil=>exactλ_ h=>(gA h).elim|cons p bs ih=>exactλhn h=>(dX.mp h).elim (λe=>by cases e;exact(afx (j3.mp hn).1).trans ((C0 x).trans ((a9 hk).trans (a9 rfl)))) λh=>ih (j3.mp hn).2 h
theorem afy{x:aq}{v:aB}(hk:kindOf x=ab .cell){bs:af (aq×aB)}:∀{m:aq->aD aB},(bs.map (·.1)).Nodup->(x,v)∈bs->I0 kindOf bs m x=ab v:=by
 induction bs with
 |nil=>exactλ_ h=>(gA h).elim|cons p bs ih=>exactλhn h=>(dX.mp h).elim (λe=>by cases e;exact(afz (j3.mp hn).1).trans ((C0 x).trans ((br λq:kindOf x=ab .local=>akf<|cq (hk.symm.trans q)).trans (a9 rfl)))) λh=>ih (j3.mp hn).2 h
end
theorem Bs{g:aI}{bs:af az}{oa:af Ad}{bT:af aB}{ds:af V}(x:l6 g bs oa bT ds):∀k,(slots bs k ds).length=bs.length/\bT.length=bs.length:=by
 induction x with
 |nil=>exactλk=>⟨rfl,rfl⟩
 |own _ ih=>exactλk=>(ih<|k+1).imp (ay (·+1)) (ay (·+1))|val _ _ ih=>exactλk=>(ih k).imp (ay (·+1)) (ay (·+1))
theorem V5{g:aI}{bs:af az}{oa:af Ad}{bT:af aB}{ds:af V}(x:l6 g bs oa bT ds):∀(pre:af Ad)(i:ai)(m:MV),(slots bs pre.length ds)[i]?=ab (ab m)->∃v,bT[i]?=ab v/\MR g (pre++oa) m v:=by
 induction x with
 |nil=>exactλpre i m e=>cO e|@own bs oa bT ds a _ ih=>
  intro pre i m e
  have ea:pre++a::oa=(pre++[a])++oa:=(oz pre [a] oa).symm
  cases i with
  |zero=>exact cq (cq e)▸⟨_,rfl,a,ea▸(u9 (by rw[eX];exact pz _)).trans Tj,rfl⟩|succ i=>
   have hl:(pre++[a]).length=pre.length+1:=eX
   have e:(slots bs (pre.length+1) ds)[i]?=ab (ab m):=e
   exact ea▸ih (pre++[a]) i m (hl▸e)
 |val r _ ih=>
  intro pre i m e
  cases i with
  |zero=>exact cq (cq e)▸⟨_,rfl,r⟩|succ i=>exact ih pre i m e
section
variable{prog:cC}{w:dv}
theorem PQ{rs:Rs}{as:af Ad}(h:as.length=rs.length)(k:ai):bp rs as=bp (rs.take k) (as.take k)++bp (rs.drop k) (as.drop k):=by
 have e:=zD (rs:=rs.take k) (qs:=rs.drop k) (as:=as.take k) (bs:=as.drop k) (by rw[AA,AA,h])
 rwa[aja,aja] at e
theorem KX{α:Type}{l:af α}{k i:ai}{a:α}(e:(l.take k)[i]?=ab a):l[i]?=ab a:=
 (uk<|ajs.symm.trans e).2
theorem ca.take{g h:aI}{rs:Rs}{as:af Ad}(x:ca prog w g h rs as)(k:ai):ca prog w g h (rs.take k) (as.take k) where
 le:=x.le
 len:=by rw[AA,AA,x.len]
 root:=λi r a e1 e2=>x.root i r a (KX e1) (KX e2)
 nodup:=(ow.mp<|PQ x.len k▸x.nodup).1
 ck:=λb hb=>x.ck b (PQ x.len k▸pB _ hb)
theorem WR{own:Rs}:∀{cE:Rs}{oa:af Ad},tq own cE=ae->∀b∈bp cE oa,b∈bp own oa:=by
 induction own with
 |nil=>exactλh b hb=>(Tf.mp h)▸hb|cons r own ih=>
  intro cE oa h b hb
  cases cE with
  |nil=>cases h|cons r' cE=>
   cases oa with
   |nil=>exact hb|cons a oa=>
    have h:=dc.mp h
    exact iX.mpr ((iX.mp hb).imp (LN h.1 b)<|ih h.2 b)
theorem ac3{a:Ad}{r:bP}:∀b∈foot a r,b∈[a.1,a.2.1,a.2.2]:=λb hb=>by
 cases r with
 |st _ _ _ _=>exact hb|cA=>exact(gA hb).elim|_=>exact cU.mp hb▸.head _
end
end
section
open PyProof.Rows
section
def qE(scope:gR):Sc:=⟨mH scope,scope.names⟩
noncomputable def YN(d:kA):az:=
 d.params.posonlyargs.isEmpty&&d.params.vararg.isNone&&d.params.kwonlyargs.isEmpty&&d.params.kwarg.isNone&&!d.scope.isCoroutine&&!d.scope.isGenerator&&decide (d.scope.kind=.function)
def n8(c0:aq->aD ai)(fn:Fn)(d:kA):az:=
 YN d&&(rL c0 fn.body (qE d.scope) d.body&&(decide (fn.nv=(mH d.scope).length/\fn.ps.length=d.params.args.length/\((mH d.scope).take fn.ps.length).map (·.1)=d.params.args.map (·.arg))&&nh (d.scope.names.map (·.1))))
end
def Iy(c0:aq->aD ai)(f9:ai->aD kA)(a8:ai->aD Fn):Prop:=∀f d,f9 f=ab d->∃fn,a8 f=ab fn/\n8 c0 fn d=ae/\o5 fn.body (qE d.scope) d.body=d.body
theorem PM{scope:gR}{i:ai}{x:aq}{k:eK}(h:(mH scope)[i]?=ab (x,k)):(k=.local\/k=.cell)/\(x,k)∈scope.names:=
 have q:=xN.mp (xM h)
 ⟨(q5.mp q.2).imp eV eV,q.1⟩
structure Di(c0:aq->aD ai)(fn:Fn)(d:kA):Prop where
 po:d.params.posonlyargs=[]
 va:d.params.vararg=aw
 ko:d.params.kwonlyargs=[]
 kw:d.params.kwarg=aw
 co:d.scope.isCoroutine=ag
 ge:d.scope.isGenerator=ag
 ki:d.scope.kind=.function
 ok:rL c0 fn.body (qE d.scope) d.body=ae
 nv:fn.nv=(mH d.scope).length
 ps:fn.ps.length=d.params.args.length
 nm:((mH d.scope).take fn.ps.length).map (·.1)=d.params.args.map (·.arg)
 nd:(d.scope.names.map (·.1)).Nodup
section
variable{c0:aq->aD ai}{fn:Fn}{d:kA}
theorem ac8(h:n8 c0 fn d=ae):Di c0 fn d:=
 have a:=bC h
 have b:=bC a.2
 have c:=bC b.2
 have o:=eV c.1
 have p7:=bC a.1
 have p6:=bC p7.1
 have p5:=bC p6.1
 have p4:=bC p5.1
 have p3:=bC p4.1
 have p2:=bC p3.1
 ⟨Tf.mp p2.1,aiW.mp p2.2,Tf.mp p3.2,aiW.mp p4.2,(pF _).mp p5.2,(pF _).mp p6.2,eV p7.2,b.1,o.1,o.2.1,o.2.2,wK c.2⟩
namespace Di
variable(x:Di c0 fn d)
include x
theorem sn:((mH d.scope).map (·.1)).Nodup:=x.nd.sublist (Jv _ Js)
theorem pn:(d.params.args.map (·.arg)).Nodup:=x.nm▸x.sn.sublist (Jv _ (List.take_sublist ..))
theorem pk{y:aq}(h:y∈d.params.args.map (·.arg)):d.scope.names.lookup y=ab .local\/d.scope.names.lookup y=ab .cell:=
 (eE.mp (x.nm▸h:y∈((mH d.scope).take fn.ps.length).map (·.1))).elim λp q=>q.2▸(List.getElem?_of_mem<|S9 q.1).elim λi e=>
  have w:=PM e
  have l:=tV x.nd w.2
  w.1.imp (λk=>l.trans<|ay ab k) λk=>l.trans (ay ab k)
theorem so:o9 (qE d.scope):=λi j y k e1 e2 _=>
 have f1:((mH d.scope).map (·.1))[i]?=ab y:=u7.trans (ay _ e1)
 have f2:((mH d.scope).map (·.1))[j]?=ab y:=u7.trans (ay _ e2)
 (ajt (l8.mp f1).1 x.sn).mp (f1.trans f2.symm)
theorem le:fn.ps.length<=(mH d.scope).length:=by
 have e:=ay DT x.nm
 rw[iF,AA,iF,<-x.ps] at e
 exact e▸u3 _ _
theorem len{g:aI}{oa:af Ad}{bT:af aB}{ds:af V}(ar:l6 g fn.ps oa bT ds):(slots fn.ps 0 ds++eW (fn.nv-fn.ps.length) aw).length=(mH d.scope).length:=by
 rw[eX,ajp,(Bs ar 0).1,x.nv];exact Nat.add_sub_cancel' x.le
theorem zip{g:aI}{oa:af Ad}{bT:af aB}{ds:af V}(ar:l6 g fn.ps oa bT ds):((d.params.args.map (·.arg)).zip bT).map (·.1)=d.params.args.map (·.arg):=
 AH _ (((Bs ar 0).2.trans x.ps).trans (iF ..).symm)
theorem hH{h h₁:aI}{L a:aP}{code:aB}{cm:aq->aD aB}(hn:∀b,L<=b->h.get? b=aw)(X:Cl L (ph (L+1) d.scope.names []) h₁ cm):∀b∈gF (envOfC d.name d.scope L a code),h.get? b=aw:=λb hb=>
 (dX.mp hb).elim (λe=>hn b<|bA e.symm) λhb=>(eE.mp hb).elim λp q=>hn b (q.2▸Ay (X.above p.1 p.2 q.1))
theorem lG{g h₁:aI}{L a:aP}{code:aB}{oa:af Ad}{bT:af aB}{ds:af V}(ar:l6 g fn.ps oa bT ds)(ns:h₁.Ns L (IZ (envOfC d.name d.scope L a code).kindOf ((d.params.args.map (·.arg)).zip bT) λ_=>aw))
  (X:Cl L (ph (L+1) d.scope.names []) h₁ (I0 (envOfC d.name d.scope L a code).kindOf ((d.params.args.map (·.arg)).zip bT) λ_=>aw))(i:ai)(y:aq)(k:eK)(m:MV)(e1:(mH d.scope)[i]?=ab (y,k))(e2:d.scope.names.lookup y=ab k)
  (e3:(slots fn.ps 0 ds++eW (fn.nv-fn.ps.length) aw)[i]?=ab (ab m)):∃v,At h₁ (envOfC d.name d.scope L a code) k y v/\MR g oa m v:=by
 have hi:i<(slots fn.ps 0 ds).length:=S0 λq=>nomatch (S8.mp<|xM ((Jr q).symm.trans e3)).2
 have hp:(d.params.args.map (·.arg))[i]?=ab y:=by
  rw[<-x.nm,u7,ajs,a9 ((Bs ar 0).1▸hi),e1];rfl
 refine(V5 ar [] i m<|(u9 hi).symm.trans e3).imp λv q=>⟨?_,q.2⟩
 have hm:(y,v)∈(d.params.args.map (·.arg)).zip bT:=xM (i:=i) (List.getElem?_zip_eq_some.mpr ⟨hp,q.1⟩)
 have nd:=(x.zip ar).symm▸x.pn
 cases k with
 |«local»=>exact⟨_,ns,afw e2 nd hm⟩|cell=>exact(uY.mp<|H8 (n:=L+1) x.nd e2).elim λc hc=>⟨c,hc,afy (kindOf:=(envOfC d.name d.scope L a code).kindOf) e2 nd hm▸X.cell y c hc⟩
 |_=>exact(PM e1).1.elim nofun nofun
theorem jc{g h h₁:aI}{L a:aP}{code:aB}{own:Rs}{oa:af Ad}{bT:af aB}{ds:af V}{prog:cC}{w:dv}(ar:l6 g fn.ps oa bT ds)(rel:ca prog w g h own oa)(hn:∀b,L<=b->h.get? b=aw)
  (ns:h₁.Ns L (IZ (envOfC d.name d.scope L a code).kindOf ((d.params.args.map (·.arg)).zip bT) λ_=>aw))(X:Cl L (ph (L+1) d.scope.names []) h₁ (I0 (envOfC d.name d.scope L a code).kindOf ((d.params.args.map (·.arg)).zip bT) λ_=>aw)):
  gH g h₁ (envOfC d.name d.scope L a code) (qE d.scope) (slots fn.ps 0 ds++eW (fn.nv-fn.ps.length) aw) oa (bp own oa) where
 ns:=⟨_,ns⟩
 mK:=λp hp=>⟨_,X.cell p.1 p.2<|tV (QJ x.nd) hp⟩
 ck:=λb hb=>have e:=x.hH hn X b hb;⟨rel.le.none e,λq=>iO e<|rel.alloc q⟩
 apart:=j3.mpr ⟨λq=>(eE.mp q).elim λp q=>Ax L (Jk (X.above p.1 p.2 q.1) q.2),S6.mpr X.apart⟩
 has:=λy hy=>H8 x.nd hy
 lG:=x.lG ar ns X
end Di
end
section
variable{prog:cC}{w:dv}{c0:aq->aD ai}{f9:ai->aD kA}{a8:ai->aD Fn}
theorem afd{g h₁ g' h':aI}{s:aZ}{own cE rs:Rs}{oa as:af Ad}{qh m:MV}{v:aB}{tk:ai}(hl:own.length=oa.length)(hf:CL own.length qh rs=ab (m,cE))(t:TR prog w g' h' h₁ h' as qh v)(l:Le s.heap h₁)(st:Step g s.heap (bp own oa) g' h')
  (rel:ca prog w g' h' rs as)(ext:oa<+:as)(jd:∀(i:ai)(a:Ad),oa.length<=i->as[i]?=ab a->∀b∈[a.1,a.2.1,a.2.2],h₁.get? b=aw)(hs:tq own cE=ae):
  jV prog w g s own oa cE (λg' h' v=>TR prog w g' h' s.heap h' oa m v) v {s with heap:=h',toks:=tk}:=by
 have rk:as.take own.length=oa:=ext.elim λq e=>e▸hl▸List.take_left' rfl
 have a6:TR prog w g' h' s.heap h' oa m v->rs.take own.length=cE->jV prog w g s own oa cE (λg' h' v=>TR prog w g' h' s.heap h' oa m v) v {s with heap:=h',toks:=tk}:=λt q=>⟨g',h',tk,rfl,st,q▸rk▸rel.take own.length,WR hs,t⟩
 cases qh with
 |val d=>
  have hf:ab (MV.val d,rs.take own.length)=ab (m,cE):=hf
  have q:=j0 (cq hf)
  exact a6 (q.1▸t) q.2
 |own r=>
  have hf:ab (MV.own r,rs.take own.length)=ab (m,cE):=hf
  have q:=j0 (cq hf)
  exact a6 (q.1▸TR.old (as:=oa) (m:=.own r) t (λb e=>l.none e) λ_ e=>e) q.2
 |ref i=>
  exact(uk hf).elim λhk e=>map.on e λr e1 e2=>(B7 e1).elim λe4 e5=>t.elim λa q=>by
   have z:=j0 e2
   have h1:rs[i]?=ab r:=qD e4.symm (e4▸e5)
   exact a6 (z.1▸⟨e4▸e5,a,q.2,rel.root i r a h1 q.1,CI rel.nodup h1 q.1,λb hb=>have Hw:=lQ h1 q.1 hb;⟨(rel.ck b Hw).1,l.none (jd i a (hl▸hk) q.1 b<|ac3 b hb),rel.alloc Hw,(rel.ck b Hw).2⟩⟩) z.2
 |_=>exact cO hf
theorem W9{n f:ai}{fn:Fn}{own cE:Rs}{ds:af V}{m:MV}(e:a8 f=ab fn)(h:b5 a8 (n+1) f own ds m cE):
  ∃os,dK (b5 a8 n) (dQ a8) fn.body own (slots fn.ps 0 ds++eW (fn.nv-fn.ps.length) aw) os λfl rs _ _=>a6 own.length fl rs=ab (m,cE):=by
 have h:(match a8 f with
  |none=>False|some fn=>own.length=(fn.ps.filter (·==ae)).length/\ds.length=(fn.ps.filter (·==ag)).length/\
    ∃os,dK (b5 a8 n) (dQ a8) fn.body own (slots fn.ps 0 ds++eW (fn.nv-fn.ps.length) aw) os λfl rs _ _=>a6 own.length fl rs=ab (m,cE)):=h
 rw[e] at h
 exact h.2.2
theorem W5(hT:Iy c0 f9 a8){n:ai}(ih:Dm prog w c0 f9 (dQ a8) (b5 a8 n) n):Dm prog w c0 f9 (dQ a8) (b5 a8<|n+1) (n+1):=by
 intro A g s f a bs own cE oa bT ds m gJ gl ha hs rel ar hr hsk
 obtain⟨d,o,pm,code,doc,hd,hg,oW,acE⟩:=ha
 obtain⟨fn,zw,hB,acF⟩:=hT f d hd
 have x:=ac8 hB
 cases(show ab fn.ps=ab bs by rw[<-hs];unfold dQ;rw[zw];rfl)
 obtain⟨os,hr⟩:=W9 zw hr
 have hle:Le g s.heap:=rel.le
 refine wpAny_call (call_cells_ret (o:=o) (lB (aj (aW A.depth<|n+1) gJ.depth)<|show 900<recursionLimit by decide) (hle _ _ hg) oW (gl.nolimit.keeps hle) (acE.keeps hle)
  (afu (name:=d.name) (body:=d.body) (scope:=d.scope) (pm:=pm) (cd:=code) (doc:=doc) x.po x.va x.ko x.kw ((Bs ar 0).2.trans x.ps) x.pn) (λy hy=>(x.pk<|x.zip ar▸eE.mpr ⟨y,hy,rfl⟩).imp_right λq=>⟨q,H8 x.nd q⟩) (λh₁ tk Fr X=>?_) x.co x.ge x.ki)
 have hn:∀b,s.heap.objs.size<=b->s.heap.get? b=aw:=λb hb=>CH hb
 have Gq:Le s.heap h₁:=Fr.keep
 have lD:Step g s.heap [] g h₁:=Step.fm [] hle Gq
 have ZU:Ok (A.deeper<|envOfC d.name d.scope s.heap.objs.size a code) n:=⟨gJ.hd,gJ.gs,aj (bA<|iW A.depth 1 n) gJ.depth,aj (bA<|fg A.units 3 (3*n))<|l7 3 (3*n)▸gJ.units⟩
 refine zS (acF▸aeA fn.body ⟨prog,w,c0,f9,dQ a8,b5 a8 n,n,A.deeper (envOfC d.name d.scope s.heap.objs.size a code),s,envOfC d.name d.scope s.heap.objs.size a code,qE d.scope⟩ d.body ⟨⟨x.ki,rfl,rfl,rfl⟩,x.so,ZU,ih⟩ x.ok)
  (μ:=⟨g,h₁,own,tk⟩) ⟨gl,rel.step lD (λ_ _ q=>nomatch q),x.jc ar rel hn Fr.ns X,x.len ar⟩ hr λμ' eB cK fl fw os T p hf=>?_
 have end_:=λ(qh:MV)(v:aB)(hf:CL own.length qh μ'.rs=ab (m,cE)) t=>afd (tk:=μ'.tk) rel.len.symm hf (v:=v) t Gq ((Step.fm (bp own oa) hle Gq).trans T.st λy hy=>(iX.mp hy).imp id<|x.hH hn X y) T.aQ.rel T.ext T.jd hsk
 cases fl with
 |nx=>exact p▸end_ (.val .none) .none hf Rd.none|rt qh=>exact p.elim λv q=>q.1▸end_ qh v hf q.2|_=>exact cO hf
theorem LS(hT:Iy c0 f9 a8):∀n,Dm prog w c0 f9 (dQ a8) (b5 a8 n) n
 |0=>λA g s f a bs own cE oa bT ds m _ _ _ _ _ _ hr _=>hr.elim|n+1=>W5 hT (LS hT n)
end
end
section
open PySem.W PyProof.Rows
noncomputable def sj:af aq:=(["part_rules","rule_of","is_pair","entry_rule","put_parts","children","has_yield","yields","any_yields","refuse","new_temp","put_temp","is_steady","kept_node",
 "sequence","hoisted_value","bare_yield","plain_value","has_short_cut","refuse_short_cut","place_value","class_part","put_branch","branching","spread_part","listing",
 "argued","calling","hoisted_target","hoisted_part","assigning","filling","hoisted_body","hoisted","hoist_statement","hoist_expr","hoist_if","left_unless","hoist_loop","hoist_foreach",
 "_law_take","_law_base","_law_expr","_law_pair","_law_body","_law_statement","_law_loop","_law_num","_law_text","_law_true","_law_operator","_law_read","_law_late","_law_answer","_law_flat","_law_element","_law_put",
 "_law_eval","_law_other","_law_assigned","_law_run","_law_left","_law_exec","_law_switched","_law_looped","_law_ran","_law_has","_law_stands","_law_all_stand","law"]:af String).map fU
section
noncomputable def mG(s:aq):aD ai:=sj.idxOf? s
def tx(p:cC)(f:ai):aD qY:=(sj[f]?).bind λn=>(recsOf p).find? λd=>d.name==n
def og(p:cC)(f:ai):aD kA:=(tx p f).map λd=>⟨d.name,d.params,d.body,d.scope⟩
def EM(p:cC)(f:ai):aD (az×af fI):=(a8 f).bind λfn=>(og p f).map λd=>(n8 mG fn d,o5 fn.body (qE d.scope) d.body)
def EL(p:cC)(f:ai):aD (az×af fI):=(og p f).map λd=>(ae,d.body)
def NW(r:cC->af qY):af ai×af (aD<|az×af fI)×az:=
 let g:ai->aD qY:=λf=>(sj[f]?).bind λn=>(r qv).find? λd=>d.name==n
 let k:ai->aD kA:=λf=>(g f).map λd=>⟨d.name,d.params,d.body,d.scope⟩
 ((jE 70).filter λf=>((a8 f).bind λfn=>(k f).map λd=>n8 mG fn d)!=ab ae,
  (jE 70).map λf=>(a8 f).bind λfn=>(k f).map λd=>(n8 mG fn d,o5 fn.body (qE d.scope) d.body),
  (jE 70).all λf=>(g f).isSome)
def LQ(r:cC->af qY):af ai×af (aD<|az×af fI)×az:=
 ([],(jE 70).map λf=>(((sj[f]?).bind λn=>(r qv).find? λd=>d.name==n).map λd=>(⟨d.name,d.params,d.body,d.scope⟩:kA)).map λd=>(ae,d.body),ae)
end
theorem aaV:NW DA=LQ DA:=by kernel_rfl
theorem Gm:NW recsOf=LQ recsOf:=by rw[I2];exact aaV
theorem X3:((jE 70).filter λf=>((a8 f).bind λfn=>(og qv f).map λd=>n8 mG fn d)!=ab ae)=[]:=ay (·.1) Gm
theorem XY:(jE 70).map (EM qv)=(jE 70).map (EL qv):=ay (·.2.1) Gm
theorem XZ:((jE 70).all λk=>(tx qv k).isSome)=ae:=ay (·.2.2) Gm
end
section
open PySem.W PyProof.Rows
theorem ac7:sj.length=70:=by kernel_rfl
theorem NN{f:ai}{x:aq}(h:sj[f]?=ab x):f<70:=(u5 f 70).elim id λq=>nomatch (Th<|ac7.symm▸q).symm.trans h
theorem L0{p:cC}{f:ai}{d:qY}(h:tx p f=ab d):∃x,sj[f]?=ab x/\(recsOf p).find? (λd=>d.name==x)=ab d:=SV.mp h
structure RL(p:cC):Prop where
 b:((jE 70).filter λf=>((a8 f).bind λfn=>(og p f).map λd=>n8 mG fn d)!=ab ae)=[]
 t:(jE 70).map (EM p)=(jE 70).map (EL p)
theorem Vb{p:cC}(h:RL p):Iy mG (og p) a8:=λf d hd=>by
 obtain⟨r,hr,e⟩:=sJ.mp hd
 obtain⟨x,hx,_⟩:=L0 hr
 have hf:=DP.mpr (NN hx)
 have h1:((a8 f).bind λfn=>(og p f).map λd=>n8 mG fn d)=ab ae:=Jw λq=>by
  have m:=xN (p:=λf=>((a8 f).bind λfn=>(og p f).map λd=>n8 mG fn d)!=ab ae) |>.mpr ⟨hf,bne_iff_ne.mpr q⟩
  rw[h.b] at m;exact nomatch m
 have h2:EM p f=EL p f:=List.map_inj_left.mp h.t f hf
 obtain⟨fn,zw,e1⟩:=SV.mp h1
 rw[hd] at e1
 have e1:n8 mG fn d=ae:=cq e1
 have h2:((a8 f).bind λfn=>(og p f).map λd=>(n8 mG fn d,o5 fn.body (qE d.scope) d.body))=(og p f).map λd=>(ae,d.body):=h2
 rw[zw,hd] at h2
 exact⟨fn,zw,e1,(j0<|cq h2).2⟩
section
variable{p:cC}{loose:af aq}{NI:ExcName->aD aB}{mg mb:aq->aD aB}{h:aI}
theorem PL(T:Top p loose NI mg mb h)(hf:∀k,k<70->(tx p k).isSome=ae){x:aq}{k:ai}(e:mG x=ab k):∃a,mg x=ab (.ref a)/\sE (og p) h k a:=by
 have hg:sj[k]?=ab x:=by
  obtain⟨h1,h2,_⟩:=List.idxOf?_eq_some_iff.mp e
  exact(Ti h1).trans (ay ab h2)
 obtain⟨d,hd⟩:=uY.mp (hf k<|NN hg)
 obtain⟨y,hy,f6⟩:=L0 hd
 cases cq (hg.symm.trans hy)
 have hn:d.name=x:=uQ (List.find?_some (p:=λd:qY=>d.name==x) f6)
 obtain⟨a,o,pm,code,doc,h1,h2,h3,h4⟩:=T.fn d (List.mem_of_find?_eq_some f6)
 exact⟨a,hn▸h1,⟨d.name,d.params,d.body,d.scope⟩,o,pm,code,doc,ay (gv _) hd,h2,h3,h4⟩
def ID(p:cC)(loose:af aq):Prop:=∀x∈zU,x∉ahX/\x∉loose/\x∉(recsOf p).map (·.name)/\x∉(litsOf p).map (·.1)/\x∉(clssOf p loose).map (·.name)
theorem acR(T:Top p loose NI mg mb h)(hf:∀k,k<70->(tx p k).isSome=ae)(Hq:ID p loose):Gl mG (og p) h:=
 ⟨⟨mg,mb,T.g,T.b,λx hx=>have q:=Hq x hx;⟨T.free x q.1 q.2.1 q.2.2.1 q.2.2.2.1 q.2.2.2.2,T.builtins x λz=>q.1<|z▸by decide⟩,λx k e=>PL T hf e⟩,T.nolimit⟩
end
theorem OO:∀ns:af aH,ofPys (ns.map iq)=ns.map WData.int
 |[]=>rfl|n::r=>ay (WData.int n::·) (OO r)
theorem QP:∀ns:af aH,DF (ns.map iq)=ae
 |[]=>rfl|n::r=>QP r
theorem ag8{l:OpenLaw}(hm:l.most=ab 63){args:af WData}(h:l.row.toRowW.claim.pre args=ae):∃ns:af aH,args=[.list<|ns.map .int]/\ns.length<=63:=by
 obtain⟨h1,h2⟩:=pre_splitW h
 obtain⟨d,r,rfl,h3,h4⟩:=hasAllW_cons h1
 cases hasAllW_nil h4
 obtain⟨xs,rfl,h5⟩:=hasW_list h3
 obtain⟨ns,rfl⟩:=items_int h5
 refine⟨ns,rfl,(u5 63 ns.length).elim (λq=>?_) id⟩
 have e:WTm.value l.row.toRowW.records (.not<|.lt (.lit<|.int ((63:ai):aH)) (.len<|.arg 0)) {args:=[.list<|ns.map .int]}=ab (.bool ag):=by
  have:(63:aH)<ns.length:=by omega
  simp[WTm.value,W.less?,Num.less?,this]
 have xb:WTm.holds l.row.toRowW.records l.pre {args:=[.list<|ns.map .int]}=ae:=h2
 unfold OpenLaw.pre WTm.holds at xb
 rw[hm] at xb
 simp only at xb
 unfold WTm.value at xb
 rw[e] at xb
 cases xb
theorem aa7:mG (fU "law")=ab 69:=by kernel_rfl
theorem aa5:dQ a8 69=ab [ag]:=by kernel_rfl
theorem Ug{q:cC}{loose:af aq}{XP:(aq->aD aB)->aI->Prop}{YP:dv->aI->Prop}{l:OpenLaw}{d:qY}{Ow:af (aq×aX)}
  (hm:l.most=ab 63)(hn:d.name=fU "law")(hf:∀k,k<70->(tx q k).isSome=ae)(ht:RL q)(Hq:ID q (looseW q loose)):
  WalkO q loose XP YP l.row.toRowW d Ow (λf vs=>PySem.call f vs):=by
 intro w Ve aA mg mb G _ a o pm cd doc dV kV _ _ _ _ O8 acz args bT as aco ajS hrd _ _
 obtain⟨ns,rfl,hlen⟩:=ag8 hm aco
 have acn:ReadsAllW l.row.toRowW.records (classAt Ve.heap) aA.heap bT (ofPys [PyData.list<|ns.map .int]) as:=by
  simpa only [ofPys,ofPy,OO] using hrd
 have rd:=It (readsAll_of_readsAllW _ acn) (by simp[DF,PyData.canLay0,QP])
 obtain⟨a',CB,fa⟩:=PL G.T hf aa7
 rw[hn] at O8
 have:a'=a:=by rw[O8] at CB;exact(SF<|cq CB).symm
 subst this
 cases rd with
 |cons r1 r2=>
  cases r2
  have gl:=acR G.T hf Hq
  have gJ:Ok callerA 201:=⟨rfl,rfl,by show 1+claimMargin+201<=900;decide,by show 4+3*201<=9000;decide⟩
  refine fq (LS (prog:=l.row.toRowW.prog) (w:=w) (Vb ht) 201 callerA aA.heap aA 69 a' [ag] [] [] [] _ _ _ gJ gl fa aa5 (ca.nil<|Le.refl _) (.val r1 .nil) (L.XH ns hlen 201<|aF _) rfl) ?_ (λ_ _ x=>x.elim)
  rintro v s' ⟨g',h',tk,rfl,st,_,_,p⟩
  have p':Rd g' v (.bool ae):=p
  obtain⟨⟨bs,r⟩,_⟩:=p'
  cases r
  refine⟨.inl ⟨_,.bool ae,[],rfl,λcls=>rfl,.bool ae,?_,λ_=>⟨.nil,λa h=>by cases h⟩⟩,.of_keep λb o e=>st.frame b o e (by simp[bp]),rfl,.of_eq acz⟩
  simp only [RowW.claim,OpenLaw.row,q7]
  exact⟨rfl,by simp[WTm.holds,WTm.value,W.same]⟩
end
section
open PySem.W PyProof.Rows
theorem X2:(zU.all λx=>!ahX.contains x&&!(looseW qv []).contains x&&!((recsOf qv).map (·.name)).contains x&&!((litsOf qv).map (·.1)).contains x&&!((clssOf qv<|looseW qv []).map (·.name)).contains x)=ae:=by
 rw[I2,aj4,ain,akc]
 kernel_rfl
theorem X1:∀k,k<70->(tx qv k).isSome=ae:=λk hk=>sP.mp XZ k (DP.mpr hk)
theorem X0:ID qv (looseW qv []):=λx hx=>by
 have h:=sP.mp X2 x hx
 simp only [q7,pF,List.contains_eq_mem,decide_eq_false_iff_not] at h
 exact⟨h.1.1.1.1,h.1.1.1.2,h.1.1.2,h.1.2,h.2⟩
noncomputable def oT:aq:=fU "law"
noncomputable def za(p:cC)(n:aq)(r:cC->af qY):aD (qY×af (aq×aX)):=match(r p).find? (λe=>e.name==n) with
 |some d=>if d.params.defaults.isEmpty then ab (d,[]) else aw|none=>(wdefsOf p).find? λe=>e.1.name==n
theorem aa9(p:cC)(n:aq):za p n recsOf=defOf p n:=rfl
def RQ(r:cC->af qY):Prop:=((za qv oT r).isSome,pv.theDef oT,(za qv oT r).map λx=>kwWritten? x.1.params.kwonlyargs x.1.params.kw_defaults)=(ae,(za qv oT r).map λx=>(x.1.params,x.1.body,x.1.scope),(za qv oT r).map λx=>ab x.2)
theorem aa4:RQ DA:=by
 delta RQ
 kernel_rfl
theorem aa8:((defOf qv oT).isSome,pv.theDef oT,(defOf qv oT).map λx=>kwWritten? x.1.params.kwonlyargs x.1.params.kw_defaults)=(ae,(defOf qv oT).map λx=>(x.1.params,x.1.body,x.1.scope),(defOf qv oT).map λx=>ab x.2):=by
 rw[<-aa9,I2]
 exact aa4
theorem agR:(chainsOk qv&&opensWell pv&&(frees DI.row.toRowW&&DI.row.within.isEmpty))=ae:=by kernel_rfl
theorem abV:pv.bare:=⟨rfl,rfl,rfl,rfl,rfl,by decide+kernel⟩
theorem aa3:DI.row.toRowW.promised:=⟨[.list []],by decide+kernel,by decide+kernel⟩
theorem holds:DI.Holds:=
 holds_law WS λk=>by
  obtain⟨l1,l2⟩:=j0 aa8
  obtain⟨h1,h2⟩:=j0 l2
  obtain⟨⟨d,Ow⟩,h⟩:=uY.mp l1
  rw[h] at h1 h2
  exact PySem.W.holds_open (q:=qv) (loose:=[]) (Xt:=λ_=>ae) (XP:=λ_ _=>True) (Yf:=λ_=>()) (Ya:=λ_=>()) (YP:=λ_ _=>True) (N:=5398) left (λ_ _ _=>trivial) (λ_ _ _ _ _=>trivial) (λ_ _=>trivial) (λ_ _ _ _ _=>trivial) h h1 (cq h2) (λs e=>recFacts_of rfl) rfl k agR abV aa3
   (Ug rfl (defOf_name h) X1 ⟨X3,XY⟩ X0)
end
end
end Mine
theorem PySem.Challenge.cw_pq0851_01_holds : PySem.Challenge.rw_pq0851_01.Holds :=
 Mine.holds
